import PyProof.Rows.All
import Wide.All
import OpenK.AllK
import Wide.FinOn
import HandS.ForMost
import HandS.ForExc
import HandS.Evl
import HandS.HeadHook1
import HandS.WideBits
import HandS.Wide
import HandS.SortInts
import HandS.TupAny
import HandS.TryOnly
import HandS.Walk
import HandS.Zip
import HandS.Conv
import HandS.Style
import HandS.Deep
import HandS.More
import HandS.DictComp
import HandS.IsInst
import HandS.SetFor
import HandS.Small
import HandS.HeadHook2
import HandS.Ends
import HandS.Defaults
import HandS.WordsExc
import HandS.Strs
import HandS.CallRecv
import HandS.Star
import KE.SortData
import KE.BitLaws
import HandS.Head2
import HandS.HeadEnd
import PySem.Challenge.RW_bitstages_k52_seen_ways_by_listing
set_option Elab.async false
set_option linter.all false
set_option maxRecDepth 100000
set_option maxHeartbeats 4000000
namespace DN
open PySem PySem.Spec PyProof.Rows L2
def sysB (K : PySem.W.Frag) : Bool := match K.lookup sysModules with
  | some o => decide (o.cls = .type "dict")
  | none => false
def bfNames : List Str := ["len", "range", "enumerate", "zip", "sorted", "list", "tuple", "int", "bool", "str", "abs", "max", "min", "sum", "all", "any", "repr", "isinstance", "divmod", "set", "dict", "ValueError"]
def bfFacts : List He.Fa := bfNames.map He.Fa.free
def obsS (n : Nat) (fa : List He.Fa) (fn : List He.DefD) (g : Addr → Option Obj) : He.AlD × Bool := (He.obsD fa fn (He.frG g (He.asD g n ++ [sysModules])), sysB (He.frG g (He.asD g n ++ [sysModules])))
def hookS (n : Nat) (fa : List He.Fa) (fn : List He.DefD) : PySem.W.Hook where
  α := He.AlD × Bool
  obs := fun s => obsS n fa fn s.heap.get?
  val := fun _ => (He.valD fn, true)
  says := fun _ h => ∃ K : PySem.W.Frag, K.In h ∧ He.SaysD fa fn K ∧ sysB K = true
  of := fun _ _ e => ⟨_, He.frG_in, congrArg Prod.fst e, congrArg Prod.snd e⟩
  keeps := fun _ _ _ ⟨K, hK, c⟩ k => ⟨K, PySem.W.Frag.In.keeps hK k, c⟩
theorem obsS_eq {n : Nat} {fa : List He.Fa} {fn : List He.DefD} {g : Addr → Option Obj} {s : Shared} (h : ∀ a, g a = s.heap.get? a) : obsS n fa fn g = (hookS n fa fn).obs s := by
  have e : g = s.heap.get? := funext h
  rw [e] <;> rfl
end DN
namespace K52
open PySem PySem.Spec PyProof.Rows L2 DN
def top (i : Nat) : Stmt := PySem.Challenge.pw_bitstages_k52_seen_ways_by_listing.main.body.getD i (.Pass ⟨0, 0, 0, 0⟩)
abbrev st_is_integer : Stmt := top 10
abbrev st_need_few : Stmt := top 12
abbrev st_parity : Stmt := top 15
abbrev st_bits_of : Stmt := top 16
abbrev st_mask_of : Stmt := top 17
abbrev st_reduced : Stmt := top 18
abbrev st_put_together : Stmt := top 21
abbrev st_marked : Stmt := top 36
abbrev st__law_source : Stmt := top 50
abbrev st__law_draw : Stmt := top 51
abbrev st__law_odd : Stmt := top 52
abbrev st__law_spots : Stmt := top 54
abbrev st__law_agreeing : Stmt := top 56
abbrev st_need_bits : Stmt := top 11
abbrev st_is_place : Stmt := top 13
abbrev st_eliminated : Stmt := top 19
abbrev st_moved : Stmt := top 25
abbrev st_columns_of : Stmt := top 29
abbrev st_begins_of : Stmt := top 37
abbrev st_ends_of : Stmt := top 38
abbrev st__law_goal : Stmt := top 53
abbrev st__law_every : Stmt := top 55
abbrev st__law_pairs : Stmt := top 57
abbrev st_need_place : Stmt := top 14
abbrev st_rank_of : Stmt := top 20
abbrev st_mapping_fault : Stmt := top 23
abbrev st_behind : Stmt := top 26
abbrev st_back : Stmt := top 27
abbrev st_is_way : Stmt := top 33
abbrev st_clash_of : Stmt := top 39
abbrev st_completed : Stmt := top 40
abbrev st_need_mapping : Stmt := top 24
abbrev st_need_ways : Stmt := top 34
abbrev st_mapping_with : Stmt := top 41
abbrev st_need_agreeing : Stmt := top 46
abbrev st_need_both : Stmt := top 35
abbrev st_agrees : Stmt := top 42
abbrev st_some_mapping : Stmt := top 43
abbrev st_clash : Stmt := top 44
abbrev st_agreeing_count : Stmt := top 45
abbrev st_sure_end : Stmt := top 47
abbrev st_can_end : Stmt := top 48
abbrev st__law_sure_right : Stmt := top 58
abbrev st__law_none_right : Stmt := top 59
abbrev st__law_right : Stmt := top 60
abbrev st_law : Stmt := top 61
def D_is_integer : He.DefD := ⟨("is_integer", none), "is_integer", "is_integer", defArgs st_is_integer, defBody st_is_integer, defScope st_is_integer, [.non, .non], []⟩
def D_need_few : He.DefD := ⟨("need_few", none), "need_few", "need_few", defArgs st_need_few, defBody st_need_few, defScope st_need_few, [], []⟩
def D_parity : He.DefD := ⟨("parity", none), "parity", "parity", defArgs st_parity, defBody st_parity, defScope st_parity, [], []⟩
def D_bits_of : He.DefD := ⟨("bits_of", none), "bits_of", "bits_of", defArgs st_bits_of, defBody st_bits_of, defScope st_bits_of, [], []⟩
def D_mask_of : He.DefD := ⟨("mask_of", none), "mask_of", "mask_of", defArgs st_mask_of, defBody st_mask_of, defScope st_mask_of, [], []⟩
def D_reduced : He.DefD := ⟨("reduced", none), "reduced", "reduced", defArgs st_reduced, defBody st_reduced, defScope st_reduced, [], []⟩
def D_put_together : He.DefD := ⟨("put_together", none), "put_together", "put_together", defArgs st_put_together, defBody st_put_together, defScope st_put_together, [], []⟩
def D_marked : He.DefD := ⟨("marked", none), "marked", "marked", defArgs st_marked, defBody st_marked, defScope st_marked, [], []⟩
def D__law_source : He.DefD := ⟨("_law_source", none), "_law_source", "_law_source", defArgs st__law_source, defBody st__law_source, defScope st__law_source, [], []⟩
def D__law_draw : He.DefD := ⟨("_law_draw", none), "_law_draw", "_law_draw", defArgs st__law_draw, defBody st__law_draw, defScope st__law_draw, [], []⟩
def D__law_odd : He.DefD := ⟨("_law_odd", none), "_law_odd", "_law_odd", defArgs st__law_odd, defBody st__law_odd, defScope st__law_odd, [], []⟩
def D__law_spots : He.DefD := ⟨("_law_spots", none), "_law_spots", "_law_spots", defArgs st__law_spots, defBody st__law_spots, defScope st__law_spots, [], []⟩
def D__law_agreeing : He.DefD := ⟨("_law_agreeing", none), "_law_agreeing", "_law_agreeing", defArgs st__law_agreeing, defBody st__law_agreeing, defScope st__law_agreeing, [], []⟩
def D_need_bits : He.DefD := ⟨("need_bits", none), "need_bits", "need_bits", defArgs st_need_bits, defBody st_need_bits, defScope st_need_bits, [], []⟩
def D_is_place : He.DefD := ⟨("is_place", none), "is_place", "is_place", defArgs st_is_place, defBody st_is_place, defScope st_is_place, [], []⟩
def D_eliminated : He.DefD := ⟨("eliminated", none), "eliminated", "eliminated", defArgs st_eliminated, defBody st_eliminated, defScope st_eliminated, [], []⟩
def D_moved : He.DefD := ⟨("moved", none), "moved", "moved", defArgs st_moved, defBody st_moved, defScope st_moved, [], []⟩
def D_columns_of : He.DefD := ⟨("columns_of", none), "columns_of", "columns_of", defArgs st_columns_of, defBody st_columns_of, defScope st_columns_of, [], []⟩
def D_begins_of : He.DefD := ⟨("begins_of", none), "begins_of", "begins_of", defArgs st_begins_of, defBody st_begins_of, defScope st_begins_of, [], []⟩
def D_ends_of : He.DefD := ⟨("ends_of", none), "ends_of", "ends_of", defArgs st_ends_of, defBody st_ends_of, defScope st_ends_of, [], []⟩
def D__law_goal : He.DefD := ⟨("_law_goal", none), "_law_goal", "_law_goal", defArgs st__law_goal, defBody st__law_goal, defScope st__law_goal, [], []⟩
def D__law_every : He.DefD := ⟨("_law_every", none), "_law_every", "_law_every", defArgs st__law_every, defBody st__law_every, defScope st__law_every, [], []⟩
def D__law_pairs : He.DefD := ⟨("_law_pairs", none), "_law_pairs", "_law_pairs", defArgs st__law_pairs, defBody st__law_pairs, defScope st__law_pairs, [], []⟩
def D_need_place : He.DefD := ⟨("need_place", none), "need_place", "need_place", defArgs st_need_place, defBody st_need_place, defScope st_need_place, [], []⟩
def D_rank_of : He.DefD := ⟨("rank_of", none), "rank_of", "rank_of", defArgs st_rank_of, defBody st_rank_of, defScope st_rank_of, [], []⟩
def D_mapping_fault : He.DefD := ⟨("mapping_fault", none), "mapping_fault", "mapping_fault", defArgs st_mapping_fault, defBody st_mapping_fault, defScope st_mapping_fault, [], []⟩
def D_behind : He.DefD := ⟨("behind", none), "behind", "behind", defArgs st_behind, defBody st_behind, defScope st_behind, [], []⟩
def D_back : He.DefD := ⟨("back", none), "back", "back", defArgs st_back, defBody st_back, defScope st_back, [], []⟩
def D_is_way : He.DefD := ⟨("is_way", none), "is_way", "is_way", defArgs st_is_way, defBody st_is_way, defScope st_is_way, [], []⟩
def D_clash_of : He.DefD := ⟨("clash_of", none), "clash_of", "clash_of", defArgs st_clash_of, defBody st_clash_of, defScope st_clash_of, [], []⟩
def D_completed : He.DefD := ⟨("completed", none), "completed", "completed", defArgs st_completed, defBody st_completed, defScope st_completed, [], []⟩
def D_need_mapping : He.DefD := ⟨("need_mapping", none), "need_mapping", "need_mapping", defArgs st_need_mapping, defBody st_need_mapping, defScope st_need_mapping, [], []⟩
def D_need_ways : He.DefD := ⟨("need_ways", none), "need_ways", "need_ways", defArgs st_need_ways, defBody st_need_ways, defScope st_need_ways, [], []⟩
def D_mapping_with : He.DefD := ⟨("mapping_with", none), "mapping_with", "mapping_with", defArgs st_mapping_with, defBody st_mapping_with, defScope st_mapping_with, [], []⟩
def D_need_agreeing : He.DefD := ⟨("need_agreeing", none), "need_agreeing", "need_agreeing", defArgs st_need_agreeing, defBody st_need_agreeing, defScope st_need_agreeing, [], []⟩
def D_need_both : He.DefD := ⟨("need_both", none), "need_both", "need_both", defArgs st_need_both, defBody st_need_both, defScope st_need_both, [], []⟩
def D_agrees : He.DefD := ⟨("agrees", none), "agrees", "agrees", defArgs st_agrees, defBody st_agrees, defScope st_agrees, [], []⟩
def D_some_mapping : He.DefD := ⟨("some_mapping", none), "some_mapping", "some_mapping", defArgs st_some_mapping, defBody st_some_mapping, defScope st_some_mapping, [], []⟩
def D_clash : He.DefD := ⟨("clash", none), "clash", "clash", defArgs st_clash, defBody st_clash, defScope st_clash, [], []⟩
def D_agreeing_count : He.DefD := ⟨("agreeing_count", none), "agreeing_count", "agreeing_count", defArgs st_agreeing_count, defBody st_agreeing_count, defScope st_agreeing_count, [], []⟩
def D_sure_end : He.DefD := ⟨("sure_end", none), "sure_end", "sure_end", defArgs st_sure_end, defBody st_sure_end, defScope st_sure_end, [], []⟩
def D_can_end : He.DefD := ⟨("can_end", none), "can_end", "can_end", defArgs st_can_end, defBody st_can_end, defScope st_can_end, [], []⟩
def D__law_sure_right : He.DefD := ⟨("_law_sure_right", none), "_law_sure_right", "_law_sure_right", defArgs st__law_sure_right, defBody st__law_sure_right, defScope st__law_sure_right, [], []⟩
def D__law_none_right : He.DefD := ⟨("_law_none_right", none), "_law_none_right", "_law_none_right", defArgs st__law_none_right, defBody st__law_none_right, defScope st__law_none_right, [], []⟩
def D__law_right : He.DefD := ⟨("_law_right", none), "_law_right", "_law_right", defArgs st__law_right, defBody st__law_right, defScope st__law_right, [], []⟩
def D_law : He.DefD := ⟨("law", none), "law", "law", defArgs st_law, defBody st_law, defScope st_law, [], []⟩
def fn : List He.DefD := [D_is_integer, D_need_few, D_parity, D_bits_of, D_mask_of, D_reduced, D_put_together, D_marked, D__law_source, D__law_draw, D__law_odd, D__law_spots, D__law_agreeing, D_need_bits, D_is_place, D_eliminated, D_moved, D_columns_of, D_begins_of, D_ends_of, D__law_goal, D__law_every, D__law_pairs, D_need_place, D_rank_of, D_mapping_fault, D_behind, D_back, D_is_way, D_clash_of, D_completed, D_need_mapping, D_need_ways, D_mapping_with, D_need_agreeing, D_need_both, D_agrees, D_some_mapping, D_clash, D_agreeing_count, D_sure_end, D_can_end, D__law_sure_right, D__law_none_right, D__law_right, D_law]
def fa : List He.Fa := [.glo "is_integer", .glo "need_few", .glo "parity", .glo "bits_of", .glo "mask_of", .glo "reduced", .glo "put_together", .glo "marked", .glo "_law_source", .glo "_law_draw", .glo "_law_odd", .glo "_law_spots", .glo "_law_agreeing", .glo "need_bits", .glo "is_place", .glo "eliminated", .glo "moved", .glo "columns_of", .glo "begins_of", .glo "ends_of", .glo "_law_goal", .glo "_law_every", .glo "_law_pairs", .glo "need_place", .glo "rank_of", .glo "mapping_fault", .glo "behind", .glo "back", .glo "is_way", .glo "clash_of", .glo "completed", .glo "need_mapping", .glo "need_ways", .glo "mapping_with", .glo "need_agreeing", .glo "need_both", .glo "agrees", .glo "some_mapping", .glo "clash", .glo "agreeing_count", .glo "sure_end", .glo "can_end", .glo "_law_sure_right", .glo "_law_none_right", .glo "_law_right", .glo "law", .int "MOST_BITS" 60, .int "MOST_WAYS" 100, .int "MOST_COUNTED" 50, .glo "Impossible", .exc "Impossible", .glo "InvalidBits", .exc "InvalidBits", .glo "InvalidPlace", .exc "InvalidPlace", .exm "Impossible" "Impossible" true, .exm "InvalidBits" "Impossible" false, .exm "InvalidPlace" "Impossible" false] ++ bfFacts
abbrev R : PySem.W.OpenRow := PySem.W.OpenLaw.row PySem.Challenge.rw_bitstages_k52_seen_ways_by_listing
abbrev hk : PySem.W.Hook := DN.hookS 4 fa fn
def ob (s : PySem.W.SharedT) : He.AlD × Bool := DN.obsS 4 fa fn (HandSHeadRun.getT s)
theorem ob_eq (s : PySem.W.SharedT) : ob s = hk.obs s.abs := DN.obsS_eq (HandSHeadRun.getT_eq s)
def loose : List PySem.Str := (["StageError", "InvalidBits", "InvalidPlace", "Impossible", "InvalidMapping", "InvalidWays", "TooLarge", "MOST_BITS", "is_integer", "need_bits", "need_few", "is_place", "need_place", "parity", "bits_of", "mask_of", "reduced", "eliminated", "rank_of", "put_together", "mapping_fault", "need_mapping", "moved", "behind", "back", "columns_of", "MOST_WAYS", "MOST_COUNTED", "is_way", "need_ways"] : List PySem.Str) ++ (["need_both", "marked", "begins_of", "ends_of", "clash_of", "completed", "mapping_with", "agrees", "some_mapping", "clash", "agreeing_count", "need_agreeing", "sure_end", "can_end", "_law_source", "_law_draw", "_law_odd", "_law_goal", "_law_spots", "_law_every", "_law_agreeing", "_law_pairs", "_law_sure_right", "_law_none_right", "_law_right"] : List PySem.Str)
theorem run (w : World) : HandSHeadRun.RunEq R (PySem.W.view R.prog [61]) hk ob 8000 loose w := by
  intro os
  kernel_rfl
end K52
set_option maxHeartbeats 2000000
namespace DN
open PySem PySem.Spec PyProof.Rows L2
open Evl (Ex)
/-- data -/
inductive D where
  | non | bl (b : Bool) | int (i : Int) | str (x : Str) | ref (a : Addr) | ty (n : String)
  | lst (ds : List D) | tup (ds : List D) | dct (kvs : List (Key × D)) | ins (C : Str) (fs : List (Str × D))
/-- a list that is read: tracked, frozen, or a plain one of the module's -/
def SqX (K : PySem.W.Frag) (H : Hp) (a : Addr) (xs : List V) : Prop :=
  Rd H a (.lst xs) ∨ ∃ (its : List Value) (n : Nat), K.lookup a = some { cls := .type "list", data := .seq its.toArray n } ∧ its.length ≤ sizeLine ∧ Vals xs its
theorem SqX.of {K : PySem.W.Frag} {H : Hp} {a : Addr} {xs : List V} (h : H a = some (.lst xs)) : SqX K H a xs := .inl (.inl h)
theorem SqX.mono {K : PySem.W.Frag} {H H' : Hp} {a : Addr} {xs : List V} (e : Ex H H') (h : SqX K H a xs) : SqX K H' a xs := h.imp (Evl.ex_rd e) id
theorem SqX.sql {K : PySem.W.Frag} {H : Hp} {a : Addr} {xs : List V} (h : SqX K H a xs) : SqL K H a xs :=
  h.imp id fun ⟨its, n, a, b, c⟩ => ⟨_, its.toArray, n, a, rfl, rfl, rfl, by simpa using b, by simpa using c⟩
theorem SqX.get {X : Cx} {pins : List (Addr × Obj)} {σ : L2.St} {H : Hp} {s : Shared} {a : Addr} {xs : List V} (I : L2.Inv X pins σ H s) (h : SqX X.K H a xs) :
    ∃ (its : List Value) (n : Nat), Vals xs its ∧ s.heap.get? a = some { cls := .type "list", data := .seq its.toArray n } ∧ xs.length ≤ sizeLine := by
  rcases h with h | ⟨its, n, a, b, c⟩
  · obtain ⟨z, its, n, r, e⟩ := h.ok I.hok
    exact ⟨its, n, r, e, z⟩
  · exact ⟨its, n, c, I.kIn _ _ a, by rw [c.length]; exact b⟩
mutual
/-- v stands for d over H -/
inductive Rep (K : W.Frag) (H : Hp) : D → V → Prop where
  | non : Rep K H .non .non
  | bl {b} : Rep K H (.bl b) (.bl b)
  | int {i} : Rep K H (.int i) (.int i)
  | str {x} : Rep K H (.str x) (.str x)
  | ref {a} : Rep K H (.ref a) (.ref a)
  | ty {n} : Rep K H (.ty n) (.ty n)
  | lst {a ds vs} : SqX K H a vs → Reps K H ds vs → Rep K H (.lst ds) (.ref a)
  | tup {a ds vs} : SqT K H a vs → Reps K H ds vs → Rep K H (.tup ds) (.ref a)
  | dct {a kvs kws} : Rd H a (.dK kws) → RepK K H kvs kws → Rep K H (.dct kvs) (.ref a)
  | ins {a C dx fs fws} : H a = some (.ins (He.ga K C) dx fws) → RepF K H fs fws → Rep K H (.ins C fs) (.ref a)
inductive Reps (K : W.Frag) (H : Hp) : List D → List V → Prop where
  | nil : Reps K H [] []
  | cons {d v ds vs} : Rep K H d v → Reps K H ds vs → Reps K H (d :: ds) (v :: vs)
inductive RepK (K : W.Frag) (H : Hp) : List (Key × D) → List (Key × V) → Prop where
  | nil : RepK K H [] []
  | cons {k d v ds vs} : Rep K H d v → RepK K H ds vs → RepK K H ((k, d) :: ds) ((k, v) :: vs)
inductive RepF (K : W.Frag) (H : Hp) : List (Str × D) → List (Str × V) → Prop where
  | nil : RepF K H [] []
  | cons {k d v ds vs} : Rep K H d v → RepF K H ds vs → RepF K H ((k, d) :: ds) ((k, v) :: vs)
end
section
variable {K : W.Frag} {H H' : Hp}
mutual
theorem Rep.mono (e : Ex H H') : ∀ {d v}, Rep K H d v → Rep K H' d v
  | _, _, .non => .non
  | _, _, .bl => .bl
  | _, _, .int => .int
  | _, _, .str => .str
  | _, _, .ref => .ref
  | _, _, .ty => .ty
  | _, _, .lst h r => .lst (SqX.mono e h) (Reps.mono e r)
  | _, _, .tup h r => .tup (Evl.ex_t e h) (Reps.mono e r)
  | _, _, .dct h r => .dct (Evl.ex_rd e h) (RepK.mono e r)
  | _, _, .ins h r => .ins (e _ _ h) (RepF.mono e r)
theorem Reps.mono (e : Ex H H') : ∀ {d v}, Reps K H d v → Reps K H' d v
  | _, _, .nil => .nil
  | _, _, .cons h r => .cons (Rep.mono e h) (Reps.mono e r)
theorem RepK.mono (e : Ex H H') : ∀ {d v}, RepK K H d v → RepK K H' d v
  | _, _, .nil => .nil
  | _, _, .cons h r => .cons (Rep.mono e h) (RepK.mono e r)
theorem RepF.mono (e : Ex H H') : ∀ {d v}, RepF K H d v → RepF K H' d v
  | _, _, .nil => .nil
  | _, _, .cons h r => .cons (Rep.mono e h) (RepF.mono e r)
end
theorem Reps.length : ∀ {ds : List D} {vs : List V}, Reps K H ds vs → vs.length = ds.length
  | _, _, .nil => rfl
  | _, _, .cons _ r => congrArg (· + 1) (Reps.length r)
theorem Reps.get : ∀ {ds : List D} {vs : List V} {i : Nat} {d : D}, Reps K H ds vs → ds[i]? = some d → ∃ v, vs[i]? = some v ∧ Rep K H d v
  | _, _, _, _, .nil, e => by simp at e
  | _, _, 0, _, .cons r _, e => by simp at e; subst e; exact ⟨_, rfl, r⟩
  | _, _, i + 1, _, .cons _ t, e => by simpa using Reps.get (i := i) t (by simpa using e)
theorem Reps.getV : ∀ {ds : List D} {vs : List V} {i : Nat} {v : V}, Reps K H ds vs → vs[i]? = some v → ∃ d, ds[i]? = some d ∧ Rep K H d v
  | _, _, _, _, .nil, e => by simp at e
  | _, _, 0, _, .cons r _, e => by simp at e; subst e; exact ⟨_, rfl, r⟩
  | _, _, i + 1, _, .cons _ t, e => by simpa using Reps.getV (i := i) t (by simpa using e)
theorem Reps.append : ∀ {ds es : List D} {vs us : List V}, Reps K H ds vs → Reps K H es us → Reps K H (ds ++ es) (vs ++ us)
  | _, _, _, _, .nil, s => s
  | _, _, _, _, .cons r t, s => .cons r (Reps.append t s)
theorem Reps.take : ∀ {ds : List D} {vs : List V} (n : Nat), Reps K H ds vs → Reps K H (ds.take n) (vs.take n)
  | _, _, 0, _ => .nil
  | _, _, _ + 1, .nil => .nil
  | _, _, n + 1, .cons r t => .cons r (Reps.take n t)
theorem Reps.drop : ∀ {ds : List D} {vs : List V} (n : Nat), Reps K H ds vs → Reps K H (ds.drop n) (vs.drop n)
  | _, _, 0, r => r
  | _, _, _ + 1, .nil => .nil
  | _, _, n + 1, .cons _ t => Reps.drop n t
theorem Reps.set {d : D} {v : V} (r : Rep K H d v) : ∀ {ds : List D} {vs : List V} (i : Nat), Reps K H ds vs → Reps K H (ds.set i d) (vs.set i v)
  | _, _, _, .nil => .nil
  | _, _, 0, .cons _ t => .cons r t
  | _, _, i + 1, .cons q t => .cons q (Reps.set r i t)
theorem Reps.reverse : ∀ {ds : List D} {vs : List V}, Reps K H ds vs → Reps K H ds.reverse vs.reverse
  | _, _, .nil => .nil
  | _, _, .cons r t => by
    rw [List.reverse_cons, List.reverse_cons]
    exact Reps.append (Reps.reverse t) (.cons r .nil)
theorem Reps.ints (ns : List Int) : Reps K H (ns.map D.int) (ns.map V.int) := by
  induction ns with
  | nil => exact .nil
  | cons n r ih => exact .cons .int ih
theorem Reps.ints_inv : ∀ {ns : List Int} {vs : List V}, Reps K H (ns.map D.int) vs → vs = ns.map V.int
  | [], _, h => by cases h; rfl
  | n :: r, _, h => by
    cases h with
    | cons a b =>
      cases a
      rw [Reps.ints_inv b]
      rfl
end
/-- what stands at an owned address -/
inductive RepO (K : W.Frag) (G : Hp) : D → HO → Prop where
  | lst {ds vs} : Reps K G ds vs → RepO K G (.lst ds) (.lst vs)
  | dct {kvs kws} : RepK K G kvs kws → RepO K G (.dct kvs) (.dK kws)
  | ins {C dx fs fws} : RepF K G fs fws → RepO K G (.ins C fs) (.ins (He.ga K C) dx fws)
  | tup {ds vs} : Reps K G ds vs → RepO K G (.tup ds) (.tup vs)
/-- the root over H, the items over G -/
inductive Top (K : W.Frag) (G H : Hp) : D → V → Prop where
  | non : Top K G H .non .non
  | bl {b} : Top K G H (.bl b) (.bl b)
  | int {i} : Top K G H (.int i) (.int i)
  | str {x} : Top K G H (.str x) (.str x)
  | ref {a} : Top K G H (.ref a) (.ref a)
  | ty {n} : Top K G H (.ty n) (.ty n)
  | lst {a ds vs} : SqX K H a vs → Reps K G ds vs → Top K G H (.lst ds) (.ref a)
  | tup {a ds vs} : SqT K H a vs → Reps K G ds vs → Top K G H (.tup ds) (.ref a)
  | dct {a kvs kws} : Rd H a (.dK kws) → RepK K G kvs kws → Top K G H (.dct kvs) (.ref a)
  | ins {a C dx fs fws} : H a = some (.ins (He.ga K C) dx fws) → RepF K G fs fws → Top K G H (.ins C fs) (.ref a)
section
variable {K : W.Frag} {G G' H H' : Hp} {d : D} {v : V} {o : HO}
theorem RepO.mono (e : Ex G G') (h : RepO K G d o) : RepO K G' d o := by
  cases h with
  | lst r => exact .lst (r.mono e)
  | dct r => exact .dct (r.mono e)
  | ins r => exact .ins (r.mono e)
  | tup r => exact .tup (r.mono e)
theorem Top.mono (e : Ex H H') (h : Top K G H d v) : Top K G H' d v := by
  cases h with
  | non => exact .non
  | bl => exact .bl
  | int => exact .int
  | str => exact .str
  | ref => exact .ref
  | ty => exact .ty
  | lst a r => exact .lst (SqX.mono e a) r
  | tup a r => exact .tup (Evl.ex_t e a) r
  | dct a r => exact .dct (Evl.ex_rd e a) r
  | ins a r => exact .ins (e _ _ a) r
theorem Top.rep (e : Ex G H) (h : Top K G H d v) : Rep K H d v := by
  cases h with
  | non => exact .non
  | bl => exact .bl
  | int => exact .int
  | str => exact .str
  | ref => exact .ref
  | ty => exact .ty
  | lst a r => exact .lst a (r.mono e)
  | tup a r => exact .tup a (r.mono e)
  | dct a r => exact .dct a (r.mono e)
  | ins a r => exact .ins a (r.mono e)
theorem Rep.top (e : Ex G H) (h : Rep K G d v) : Top K G H d v := by
  cases h with
  | non => exact .non
  | bl => exact .bl
  | int => exact .int
  | str => exact .str
  | ref => exact .ref
  | ty => exact .ty
  | lst a r => exact .lst (SqX.mono e a) r
  | tup a r => exact .tup (Evl.ex_t e a) r
  | dct a r => exact .dct (Evl.ex_rd e a) r
  | ins a r => exact .ins (e _ _ a) r
theorem RepO.top {l : Addr} (h : H l = some o) (r : RepO K G d o) : Top K G H d (.ref l) := by
  cases r with
  | lst r => exact .lst (.of h) r
  | dct r => exact .dct (.inl h) r
  | ins r => exact .ins h r
  | tup r => exact .tup (.of h) r
theorem RepO.rep {l : Addr} (h : G l = some o) (r : RepO K G d o) : Rep K G d (.ref l) := by
  cases r with
  | lst r => exact .lst (.of h) r
  | dct r => exact .dct (.inl h) r
  | ins r => exact .ins h r
  | tup r => exact .tup (.of h) r
end
/-- a slot: nothing, a frozen value, an owned object, an object that is only read here -/
inductive Sl where
  | un | fz (d : D) | own (d : D) | ln (d : D)
abbrev Env := List Sl
/-- what an expression gives: a frozen value, a new object of one's own, what stands in a slot, a tuple of such -/
inductive R where
  | fz (d : D) | own (d : D) | bor (i : Nat) | tp (rs : List R)
/-- what is lent: by slot, address and content -/
abbrev Lent := Nat → Addr → HO → Prop
def LB (L : Lent) (B : Hp) : Prop := ∀ i l o, L i l o → B l = some o
def NL (L : Lent) (l : Addr) : Prop := ∀ i o, ¬ L i l o
theorem LB.ex {L : Lent} {B B' : Hp} (h : LB L B) (e : Ex B B') : LB L B' := fun i l o q => e l o (h i l o q)
theorem LB.nl {L : Lent} {B : Hp} (h : LB L B) {l : Addr} (b : B l = none) : NL L l := fun i o q => by
  rw [h i l o q] at b
  cases b
theorem LB.of_upd {L : Lent} {B : Hp} {l : Addr} {o : HO} (h : LB L (upd B l o)) (n : NL L l) : LB L B := fun i m u q => by
  have hm : m ≠ l := fun z => by subst z; exact n i u q
  have := h i m u q
  rw [upd_ne hm] at this
  exact this
structure OkS (K : W.Frag) (L : Lent) (G B H : Hp) (σ : L2.St) (ρ : Env) : Prop where
  gb : Ex G B
  lb : LB L B
  bh : Ex B H
  len : σ.length = ρ.length
  fz : ∀ (i : Nat) d, ρ[i]? = some (.fz d) → ∃ v, σ[i]? = some (some v) ∧ Rep K G d v
  ow : ∀ (i : Nat) d, ρ[i]? = some (.own d) → ∃ l o, σ[i]? = some (some (.ref l)) ∧ B l = none ∧ H l = some o ∧ RepO K G d o
  ln : ∀ (i : Nat) d, ρ[i]? = some (.ln d) → ∃ v, σ[i]? = some (some v) ∧ (Rep K G d v ∨ ∃ l o, v = .ref l ∧ L i l o ∧ RepO K G d o)
  dis : ∀ (i j : Nat) d d' l, ρ[i]? = some (.own d) → ρ[j]? = some (.own d') → σ[i]? = some (some (.ref l)) → σ[j]? = some (some (.ref l)) → i = j
inductive OkVs (K : W.Frag) (L : Lent) (G H : Hp) (σ : L2.St) (ρ : Env) : Hp → List R → List V → Prop where
  | nil {B} : OkS K L G B H σ ρ → OkVs K L G H σ ρ B [] []
  | fz {B d v rs vs} : Rep K G d v → OkVs K L G H σ ρ B rs vs → OkVs K L G H σ ρ B (.fz d :: rs) (v :: vs)
  | own {B l o d rs vs} : G l = none → NL L l → B l = none → RepO K G d o → OkVs K L G H σ ρ (upd B l o) rs vs → OkVs K L G H σ ρ B (.own d :: rs) (.ref l :: vs)
  | bor {B i v rs vs} : σ[i]? = some (some v) → OkVs K L G H σ ρ B rs vs → OkVs K L G H σ ρ B (.bor i :: rs) (v :: vs)
  | tp {B p qs ws rs vs} : G p = none → NL L p → B p = none → qs.length = ws.length → OkVs K L G H σ ρ (upd B p (.tup ws)) (qs ++ rs) (ws ++ vs) → OkVs K L G H σ ρ B (.tp qs :: rs) (.ref p :: vs)
structure Grow (G B G' B' : Hp) : Prop where
  bb : Ex B B'
  fr : ∀ p o, B p = some o → G' p = G p
theorem Grow.refl {G B : Hp} : Grow G B G B := ⟨Ex.refl _, fun _ _ _ => rfl⟩
theorem Grow.trans {G B G1 B1 G2 B2 : Hp} (a : Grow G B G1 B1) (b : Grow G1 B1 G2 B2) : Grow G B G2 B2 :=
  ⟨a.bb.trans b.bb, fun p o h => (b.fr p o (a.bb p o h)).trans (a.fr p o h)⟩
theorem Grow.gg {G B G' B' : Hp} (a : Grow G B G' B') (e : Ex G B) : Ex G G' := fun p o h => by
  rw [a.fr p o (e p o h)]
  exact h
theorem ex_upd {B B' : Hp} (e : Ex B B') {l : Addr} {o : HO} : Ex (upd B l o) (upd B' l o) := fun b u h => by
  by_cases hb : b = l
  · subst hb; rw [upd_same] at h ⊢; exact h
  · rw [upd_ne hb] at h ⊢; exact e b u h
theorem none_of_ex {B B' : Hp} (e : Ex B B') {l : Addr} (h : B' l = none) : B l = none := Evl.fresh_back e h
theorem ex_of_upd {G B : Hp} {l : Addr} {o : HO} (e : Ex G (upd B l o)) (h : G l = none) : Ex G B := fun b u q => by
  have := e b u q
  rw [upd_ne (ne_of_none q h)] at this
  exact this
theorem upd_comm {B : Hp} {l l' : Addr} {o o' : HO} (h : l ≠ l') : upd (upd B l o) l' o' = upd (upd B l' o') l o := by
  funext b
  unfold upd
  by_cases h1 : b = l'
  · by_cases h2 : b = l
    · exact absurd (h2.symm.trans h1) h
    · simp [h1, h2]; intro e; exact absurd e.symm h
  · simp [h1]
/-- without l -/
def del (H : Hp) (a : Addr) : Hp := fun b => if b = a then none else H b
theorem del_same {H : Hp} {a : Addr} : del H a a = none := if_pos rfl
theorem del_ne {H : Hp} {a b : Addr} (h : b ≠ a) : del H a b = H b := if_neg h
theorem upd_del {H : Hp} {a : Addr} {o : HO} (h : H a = some o) : upd (del H a) a o = H := by
  funext b
  by_cases hb : b = a
  · subst hb; rw [upd_same, h]
  · rw [upd_ne hb, del_ne hb]
theorem ex_del {B B2 : Hp} {l : Addr} {o : HO} (e : Ex (upd B l o) B2) (h : B l = none) : Ex B (del B2 l) := fun b u q => by
  have hb := ne_of_none q h
  rw [del_ne hb]
  exact e b u (by rw [upd_ne hb]; exact q)
section
variable {K : W.Frag} {L : Lent} {G G' B B' B2 H H' : Hp} {σ σ' : L2.St} {ρ ρ' : Env} {rs ss : List R} {vs us : List V} {r : R} {v : V} {d : D}
theorem OkS.gh (s : OkS K L G B H σ ρ) : Ex G H := s.gb.trans s.bh
theorem OkS.anti (s : OkS K L G B2 H σ ρ) (e : Ex B B2) (g : Ex G B) (l : LB L B) : OkS K L G B H σ ρ :=
  ⟨g, l, e.trans s.bh, s.len, s.fz, fun i d h => let ⟨a, o, h1, h2, h3⟩ := s.ow i d h; ⟨a, o, h1, none_of_ex e h2, h3⟩, s.ln, s.dis⟩
theorem OkS.growG (s : OkS K L G B H σ ρ) (e : Ex G G') (g : Ex G' B) : OkS K L G' B H σ ρ :=
  ⟨g, s.lb, s.bh, s.len, fun i d h => let ⟨v, h1, h2⟩ := s.fz i d h; ⟨v, h1, h2.mono e⟩, fun i d h => let ⟨a, o, h1, h2, h3, h4⟩ := s.ow i d h; ⟨a, o, h1, h2, h3, h4.mono e⟩,
    fun i d h => let ⟨v, h1, h2⟩ := s.ln i d h; ⟨v, h1, h2.imp (fun x => x.mono e) fun ⟨l, o, a, b, c⟩ => ⟨l, o, a, b, c.mono e⟩⟩, s.dis⟩
theorem OkVs.base (h : OkVs K L G H σ ρ B rs vs) : Ex G B ∧ LB L B ∧ Ex B H := by
  induction h with
  | nil s => exact ⟨s.gb, s.lb, s.bh⟩
  | fz _ _ ih => exact ih
  | bor _ _ ih => exact ih
  | own g l b _ _ ih => exact ⟨ex_of_upd ih.1 g, ih.2.1.of_upd l, fun p o q => ih.2.2 p o (by rw [upd_ne (ne_of_none q b)]; exact q)⟩
  | tp g l b _ _ ih => exact ⟨ex_of_upd ih.1 g, ih.2.1.of_upd l, fun p o q => ih.2.2 p o (by rw [upd_ne (ne_of_none q b)]; exact q)⟩
theorem OkVs.anti (h : OkVs K L G H σ ρ B2 rs vs) : ∀ {B : Hp}, Ex B B2 → Ex G B → LB L B → OkVs K L G H σ ρ B rs vs := by
  induction h with
  | nil s => intro B e g l; exact .nil (s.anti e g l)
  | fz r _ ih => intro B e g l; exact .fz r (ih e g l)
  | bor r _ ih => intro B e g l; exact .bor r (ih e g l)
  | own g l b r _ ih => intro B e g' l'; exact .own g l (none_of_ex e b) r (ih (ex_upd e) (g'.trans (Ex.new (none_of_ex e b))) (l'.ex (Ex.new (none_of_ex e b))))
  | tp g l b n _ ih => intro B e g' l'; exact .tp g l (none_of_ex e b) n (ih (ex_upd e) (g'.trans (Ex.new (none_of_ex e b))) (l'.ex (Ex.new (none_of_ex e b))))
theorem OkVs.growG (h : OkVs K L G H σ ρ B rs vs) (e : Ex G G') : Ex G' B → OkVs K L G' H σ ρ B rs vs := by
  induction h with
  | nil s => intro g; exact .nil (s.growG e g)
  | fz r _ ih => intro g; exact .fz (r.mono e) (ih g)
  | bor r _ ih => intro g; exact .bor r (ih g)
  | own g0 l b r _ ih => intro g; exact .own (none_of_ex g b) l b (r.mono e) (ih (g.trans (Ex.new b)))
  | tp g0 l b n _ ih => intro g; exact .tp (none_of_ex g b) l b n (ih (g.trans (Ex.new b)))
theorem OkVs.drops (h : OkVs K L G H σ ρ B rs vs) : ∀ n, OkVs K L G H σ ρ B (rs.drop n) (vs.drop n) := by
  induction h with
  | nil s => intro n; simpa using OkVs.nil s
  | fz r h ih => intro n; cases n with
    | zero => exact .fz r h
    | succ n => exact ih n
  | bor r h ih => intro n; cases n with
    | zero => exact .bor r h
    | succ n => exact ih n
  | own g l b r h ih => intro n; cases n with
    | zero => exact .own g l b r h
    | succ n =>
      have x := (OkVs.own g l b r h).base
      exact (ih n).anti (Ex.new b) x.1 x.2.1
  | @tp B p qs ws rs vs g l b m h ih => intro n; cases n with
    | zero => exact .tp g l b m h
    | succ n =>
      have x := (OkVs.tp g l b m h).base
      have y := ih (qs.length + n)
      have e1 : (qs ++ rs).drop (qs.length + n) = rs.drop n := by
        rw [← List.drop_drop, List.drop_left]
      have e2 : (ws ++ vs).drop (qs.length + n) = vs.drop n := by
        rw [m, ← List.drop_drop, List.drop_left]
      rw [e1, e2] at y
      exact y.anti (Ex.new b) x.1 x.2.1
theorem OkVs.state (h : OkVs K L G H σ ρ B rs vs) (e : rs.length = vs.length := by rfl) : OkS K L G B H σ ρ := by
  have y := h.drops rs.length
  rw [List.drop_length, e, List.drop_length] at y
  cases y with
  | nil s => exact s
theorem OkVs.length (h : OkVs K L G H σ ρ B rs vs) : rs.length = vs.length := by
  induction h with
  | nil => rfl
  | fz _ _ ih => simp [ih]
  | bor _ _ ih => simp [ih]
  | own _ _ _ _ _ ih => simp [ih]
  | tp _ _ _ m _ ih => simp only [List.length_append, List.length_cons] at ih ⊢; omega
theorem OkVs.tail (h : OkVs K L G H σ ρ B (r :: rs) (v :: vs)) : OkVs K L G H σ ρ B rs vs := h.drops 1
/-- what is pending is held while something else is done -/
theorem OkVs.hold (h : OkVs K L G H σ ρ B rs vs) : ∃ B2, Ex B B2 ∧ OkS K L G B2 H σ ρ ∧ ∀ {G' B2' H' : Hp} {ρ' : Env} {ss : List R} {us : List V}, Grow G B2 G' B2' → OkVs K L G' H' σ ρ' B2' ss us →
    ∃ B', Grow G B G' B' ∧ OkVs K L G' H' σ ρ' B' (rs ++ ss) (vs ++ us) := by
  induction h with
  | nil s => exact ⟨_, Ex.refl _, s, fun g k => ⟨_, g, k⟩⟩
  | fz r h ih =>
    obtain ⟨B2, e, s, k⟩ := ih
    refine ⟨B2, e, s, fun g q => ?_⟩
    obtain ⟨B', g', q'⟩ := k g q
    exact ⟨B', g', .fz (r.mono (g'.gg h.base.1)) q'⟩
  | bor r h ih =>
    obtain ⟨B2, e, s, k⟩ := ih
    refine ⟨B2, e, s, fun g q => ?_⟩
    obtain ⟨B', g', q'⟩ := k g q
    exact ⟨B', g', .bor r q'⟩
  | @own B l o d rs vs g l0 b r h ih =>
    obtain ⟨B2, e, s, k⟩ := ih
    refine ⟨B2, (Ex.new b).trans e, s, fun {G' B2' H' ρ' ss us} g1 q => ?_⟩
    obtain ⟨B', g', q'⟩ := k g1 q
    have hl : B' l = some o := g'.bb l o upd_same
    refine ⟨del B' l, ⟨ex_del g'.bb b, fun p u hp => g'.fr p u (by rw [upd_ne (ne_of_none hp b)]; exact hp)⟩, ?_⟩
    refine .own ((g'.fr l o upd_same).trans g) l0 del_same (r.mono (g'.gg h.base.1)) ?_
    rw [upd_del hl]
    exact q'
  | @tp B p qs ws rs vs g l0 b m h ih =>
    obtain ⟨B2, e, s, k⟩ := ih
    refine ⟨B2, (Ex.new b).trans e, s, fun {G' B2' H' ρ' ss us} g1 q => ?_⟩
    obtain ⟨B', g', q'⟩ := k g1 q
    have hl : B' p = some (.tup ws) := g'.bb p _ upd_same
    refine ⟨del B' p, ⟨ex_del g'.bb b, fun a u hp => g'.fr a u (by rw [upd_ne (ne_of_none hp b)]; exact hp)⟩, ?_⟩
    refine .tp ((g'.fr p _ upd_same).trans g) l0 del_same m ?_
    rw [upd_del hl]
    rw [List.append_assoc, List.append_assoc] at q'
    exact q'
end
def slD : Sl → Option D
  | .un => none
  | .fz d => some d
  | .own d => some d
  | .ln d => some d
def getD (ρ : Env) (i : Nat) : Option D := ρ[i]?.bind slD
/-- an operand (a tuple at hand is frozen ahead) -/
def useR (ρ : Env) : R → Option D
  | .fz d => some d
  | .own d => some d
  | .bor i => getD ρ i
  | .tp _ => none
section
variable {K : W.Frag} {L : Lent} {G G' B B' B2 H H' : Hp} {σ σ' : L2.St} {ρ ρ' : Env} {rs ss : List R} {vs us : List V} {r : R} {v : V} {d : D} {i : Nat}
theorem OkS.slot (s : OkS K L G B H σ ρ) (h : getD ρ i = some d) (hv : σ[i]? = some (some v)) : Top K G H d v := by
  unfold getD at h
  cases e : ρ[i]? with
  | none => rw [e] at h; cases h
  | some x =>
    rw [e] at h
    cases x with
    | un => cases h
    | fz d' =>
      cases h
      obtain ⟨w, h1, h2⟩ := s.fz i _ e
      rw [hv] at h1; cases h1
      exact h2.top s.gh
    | own d' =>
      cases h
      obtain ⟨l, o, h1, h2, h3, h4⟩ := s.ow i _ e
      rw [hv] at h1; cases h1
      exact h4.top h3
    | ln d' =>
      cases h
      obtain ⟨w, h1, h2⟩ := s.ln i _ e
      rw [hv] at h1; cases h1
      rcases h2 with h2 | ⟨l, o, rfl, h3, h4⟩
      · exact h2.top s.gh
      · exact h4.top (s.bh _ _ (s.lb _ _ _ h3))
theorem OkS.has (s : OkS K L G B H σ ρ) (h : getD ρ i = some d) : ∃ v, σ[i]? = some (some v) := by
  unfold getD at h
  cases e : ρ[i]? with
  | none => rw [e] at h; cases h
  | some x =>
    rw [e] at h
    cases x with
    | un => cases h
    | fz d' => obtain ⟨w, h1, h2⟩ := s.fz i _ e; exact ⟨w, h1⟩
    | own d' => obtain ⟨l, o, h1, h2⟩ := s.ow i _ e; exact ⟨_, h1⟩
    | ln d' => obtain ⟨w, h1, h2⟩ := s.ln i _ e; exact ⟨w, h1⟩
theorem OkVs.use (h : OkVs K L G H σ ρ B (r :: rs) (v :: vs)) (u : useR ρ r = some d) (e : rs.length = vs.length := by rfl) : Top K G H d v := by
  have s := h.state (by simp [e])
  cases h with
  | fz a _ => cases u; exact a.top s.gh
  | own g l b a k => cases u; exact a.top (k.base.2.2 _ _ upd_same)
  | bor a _ => exact s.slot u a
  | tp => cases u
end
def scalD : D → Bool
  | .non | .bl _ | .int _ | .str _ | .ref _ | .ty _ => true
  | _ => false
mutual
def escR (ρ : Env) : R → Option (Env × D)
  | .fz d => some (ρ, d)
  | .own d => some (ρ, d)
  | .bor i => match ρ[i]? with
    | some (.fz d) => some (ρ, d)
    | some (.own d) => some (ρ.set i (.fz d), d)
    | some (.ln d) => if scalD d then some (ρ, d) else none
    | _ => none
  | .tp rs => match escRs ρ rs with
    | some (ρ', ds) => some (ρ', .tup ds)
    | none => none
def escRs (ρ : Env) : List R → Option (Env × List D)
  | [] => some (ρ, [])
  | r :: rs => match escR ρ r with
    | some (ρ1, d) => match escRs ρ1 rs with
      | some (ρ2, ds) => some (ρ2, d :: ds)
      | none => none
    | none => none
end
section
variable {K : W.Frag} {L : Lent} {G G' B B' B2 H H' : Hp} {σ σ' : L2.St} {ρ ρ' : Env} {rs ss : List R} {vs us : List V} {r : R} {v : V} {d : D} {i : Nat} {l : Addr} {o : HO}
theorem scal_top (h : Top K G H d v) (e : scalD d = true) : Rep K G d v := by
  cases h <;> first | exact .non | exact .bl | exact .int | exact .str | exact .ref | exact .ty | exact Bool.noConfusion e
/-- the owned object of a slot is frozen -/
theorem OkS.frz (s : OkS K L G B H σ ρ) (hi : ρ[i]? = some (.own d)) (h1 : σ[i]? = some (some (.ref l))) (h2 : B l = none) (h3 : H l = some o) (h4 : RepO K G d o) : OkS K L (upd G l o) (upd B l o) H σ (ρ.set i (.fz d)) := by
  have hg : G l = none := none_of_ex s.gb h2
  have eg : Ex G (upd G l o) := Ex.new hg
  have hil : i < ρ.length := (List.getElem?_eq_some_iff.mp hi).1
  refine ⟨ex_upd s.gb, s.lb.ex (Ex.new h2), fun b u q => ?_, by rw [List.length_set]; exact s.len, fun j d' q => ?_, fun j d' q => ?_, fun j d' q => ?_, fun j k dj dk a q1 q2 => ?_⟩
  · by_cases hb : b = l
    · subst hb; rw [upd_same] at q; cases q; exact h3
    · rw [upd_ne hb] at q; exact s.bh b u q
  · rw [List.getElem?_set] at q
    by_cases hj : i = j
    · subst hj; rw [if_pos rfl, if_pos hil] at q; cases q
      exact ⟨_, h1, RepO.rep upd_same (h4.mono eg)⟩
    · rw [if_neg hj] at q
      obtain ⟨w, a, b⟩ := s.fz j d' q
      exact ⟨w, a, b.mono eg⟩
  · rw [List.getElem?_set] at q
    by_cases hj : i = j
    · subst hj; rw [if_pos rfl, if_pos hil] at q; cases q
    · rw [if_neg hj] at q
      obtain ⟨m, u, a, b, c, e⟩ := s.ow j d' q
      refine ⟨m, u, a, ?_, c, e.mono eg⟩
      have hm : m ≠ l := fun z => by subst z; exact hj (s.dis i j d d' m hi q h1 a)
      rw [upd_ne hm]; exact b
  · rw [List.getElem?_set] at q
    by_cases hj : i = j
    · subst hj; rw [if_pos rfl, if_pos hil] at q; cases q
    · rw [if_neg hj] at q
      obtain ⟨w, a, b⟩ := s.ln j d' q
      exact ⟨w, a, b.imp (fun x => x.mono eg) fun ⟨m, u, x, y, z⟩ => ⟨m, u, x, y, z.mono eg⟩⟩
  · rw [List.getElem?_set] at q1 q2
    by_cases hj : i = j
    · subst hj; rw [if_pos rfl, if_pos hil] at q1; cases q1
    · by_cases hk : i = k
      · subst hk; rw [if_pos rfl, if_pos hil] at q2; cases q2
      · rw [if_neg hj] at q1; rw [if_neg hk] at q2
        exact s.dis j k dj dk a q1 q2
theorem OkVs.slotOwn (h : OkVs K L G H σ ρ B rs vs) (hi : ρ[i]? = some (.own d)) : ∃ l o, σ[i]? = some (some (.ref l)) ∧ B l = none ∧ H l = some o ∧ RepO K G d o := (h.state h.length).ow i d hi
theorem OkVs.frz (h : OkVs K L G H σ ρ B rs vs) (hi : ρ[i]? = some (.own d)) (h1 : σ[i]? = some (some (.ref l))) (h3 : H l = some o) (h4 : RepO K G d o) : OkVs K L (upd G l o) H σ (ρ.set i (.fz d)) (upd B l o) rs vs := by
  induction h with
  | @nil B s =>
    obtain ⟨l', o', a, b, c, e⟩ := s.ow i d hi
    rw [h1] at a; cases a
    exact .nil (s.frz hi h1 b h3 h4)
  | fz r h ih =>
    obtain ⟨l', o', a, b, c, e⟩ := h.slotOwn hi
    rw [h1] at a; cases a
    exact .fz (r.mono (Ex.new (none_of_ex h.base.1 b))) ih
  | bor r h ih => exact .bor r ih
  | @own B m u e rs vs g l0 b r h ih =>
    obtain ⟨l', o', a, b', c, e'⟩ := h.slotOwn hi
    rw [h1] at a; cases a
    have hm : l ≠ m := fun z => by subst z; rw [upd_same] at b'; cases b'
    rw [upd_ne hm] at b'
    have hg : G l = none := none_of_ex (OkVs.own g l0 b r h).base.1 b'
    refine .own (by rw [upd_ne (Ne.symm hm)]; exact g) l0 (by rw [upd_ne (Ne.symm hm)]; exact b) (r.mono (Ex.new hg)) ?_
    rw [upd_comm hm]
    exact ih
  | @tp B m qs ws rs vs g l0 b n h ih =>
    obtain ⟨l', o', a, b', c, e'⟩ := h.slotOwn hi
    rw [h1] at a; cases a
    have hm : l ≠ m := fun z => by subst z; rw [upd_same] at b'; cases b'
    rw [upd_ne hm] at b'
    refine .tp (by rw [upd_ne (Ne.symm hm)]; exact g) l0 (by rw [upd_ne (Ne.symm hm)]; exact b) n ?_
    rw [upd_comm hm]
    exact ih
theorem OkVs.fzs : ∀ {ds : List D} {ws : List V}, OkVs K L G H σ ρ B (ds.map R.fz ++ rs) (ws ++ vs) → ds.length = ws.length → Reps K G ds ws ∧ OkVs K L G H σ ρ B rs vs
  | [], [], h, _ => ⟨.nil, h⟩
  | d :: ds, w :: ws, h, e => by
    cases h with
    | fz r k =>
      obtain ⟨a, b⟩ := OkVs.fzs (ds := ds) (ws := ws) k (by simpa using e)
      exact ⟨.cons r a, b⟩
theorem OkVs.ofReps : ∀ {ds : List D} {ws : List V}, Reps K G ds ws → OkVs K L G H σ ρ B rs vs → OkVs K L G H σ ρ B (ds.map R.fz ++ rs) (ws ++ vs)
  | _, _, .nil, h => h
  | _, _, .cons a b, h => .fz a (OkVs.ofReps b h)
mutual
theorem OkVs.esc : ∀ {r : R} {G B : Hp} {ρ ρ' : Env} {d : D} {rs : List R} {vs : List V} {v : V}, OkVs K L G H σ ρ B (r :: rs) (v :: vs) → escR ρ r = some (ρ', d) →
    ∃ G' B', Grow G B G' B' ∧ OkVs K L G' H σ ρ' B' (.fz d :: rs) (v :: vs)
  | .fz d0, G, B, ρ, ρ', d, rs, vs, v, h, e => by
    simp only [escR, Option.some.injEq, Prod.mk.injEq] at e
    obtain ⟨rfl, rfl⟩ := e
    exact ⟨G, B, .refl, h⟩
  | .own d0, G, B, ρ, ρ', d, rs, vs, v, h, e => by
    simp only [escR, Option.some.injEq, Prod.mk.injEq] at e
    obtain ⟨rfl, rfl⟩ := e
    cases h with
    | @own _ l o _ _ _ g l0 b r k =>
      refine ⟨upd G l o, upd B l o, ⟨Ex.new b, fun p u hp => by rw [upd_ne (ne_of_none hp b)]⟩, ?_⟩
      exact .fz (RepO.rep upd_same (r.mono (Ex.new g))) (k.growG (Ex.new g) (ex_upd (ex_of_upd k.base.1 g)))
  | .bor i, G, B, ρ, ρ', d, rs, vs, v, h, e => by
    cases h with
    | bor hv k =>
    unfold escR at e
    cases hi : ρ[i]? with
    | none => rw [hi] at e; cases e
    | some x =>
      rw [hi] at e
      cases x with
      | un => cases e
      | fz d' =>
        cases e
        obtain ⟨w, a, b⟩ := (k.state k.length).fz i _ hi
        rw [hv] at a; cases a
        exact ⟨G, B, .refl, .fz b k⟩
      | own d' =>
        cases e
        obtain ⟨l, o, a, b, c, q⟩ := k.slotOwn hi
        rw [hv] at a; cases a
        have hg := none_of_ex k.base.1 b
        exact ⟨upd G l o, upd B l o, ⟨Ex.new b, fun p u hp => by rw [upd_ne (ne_of_none hp b)]⟩, .fz (RepO.rep upd_same (q.mono (Ex.new hg))) (k.frz hi hv c q)⟩
      | ln d' =>
        simp only at e
        by_cases hs : scalD d' = true
        · rw [if_pos hs] at e
          cases e
          have t := (k.state k.length).slot (i := i) (d := d) (v := v) (by unfold getD; rw [hi]; rfl) hv
          exact ⟨G, B, .refl, .fz (scal_top t hs) k⟩
        · rw [if_neg hs] at e; cases e
  | .tp qs, G, B, ρ, ρ', d, rs, vs, v, h, e => by
    cases h with
    | @tp _ p _ ws _ _ g l0 b n k =>
    unfold escR at e
    cases he : escRs ρ qs with
    | none => rw [he] at e; cases e
    | some x =>
      obtain ⟨ρ1, ds⟩ := x
      rw [he] at e
      cases e
      obtain ⟨G', B', gr, k', m⟩ := OkVs.escs (qs := qs) k n he
      obtain ⟨rp, k2⟩ := OkVs.fzs k' m
      have hp : B' p = some (.tup ws) := gr.bb p _ upd_same
      have hg : G' p = none := (gr.fr p _ upd_same).trans g
      have eg : Ex G' (upd G' p (.tup ws)) := Ex.new hg
      refine ⟨upd G' p (.tup ws), B', ⟨(Ex.new b).trans gr.bb, fun a u ha => ?_⟩, ?_⟩
      · have hne := ne_of_none ha b
        rw [upd_ne hne]
        exact gr.fr a u (by rw [upd_ne hne]; exact ha)
      · refine .fz (.tup (.of upd_same) (rp.mono eg)) (k2.growG eg fun a u ha => ?_)
        by_cases hne : a = p
        · subst hne; rw [upd_same] at ha; cases ha; exact hp
        · rw [upd_ne hne] at ha; exact k2.base.1 a u ha
theorem OkVs.escs : ∀ {qs : List R} {G B : Hp} {ρ ρ' : Env} {ds : List D} {rs : List R} {ws vs : List V}, OkVs K L G H σ ρ B (qs ++ rs) (ws ++ vs) → qs.length = ws.length → escRs ρ qs = some (ρ', ds) →
    ∃ G' B', Grow G B G' B' ∧ OkVs K L G' H σ ρ' B' (ds.map R.fz ++ rs) (ws ++ vs) ∧ ds.length = ws.length
  | [], G, B, ρ, ρ', ds, rs, ws, vs, h, n, e => by
    cases ws with
    | nil =>
      simp only [escRs, Option.some.injEq, Prod.mk.injEq] at e
      obtain ⟨rfl, rfl⟩ := e
      exact ⟨G, B, .refl, h, rfl⟩
    | cons => simp at n
  | q :: qs, G, B, ρ, ρ', ds, rs, ws, vs, h, n, e => by
    cases ws with
    | nil => simp at n
    | cons w ws =>
      unfold escRs at e
      cases h1 : escR ρ q with
      | none => rw [h1] at e; cases e
      | some x =>
        obtain ⟨ρ1, d⟩ := x
        rw [h1] at e
        simp only at e
        cases h2 : escRs ρ1 qs with
        | none => rw [h2] at e; cases e
        | some y =>
          obtain ⟨ρ2, ds'⟩ := y
          rw [h2] at e
          cases e
          obtain ⟨G1, B1, g1, k1⟩ := OkVs.esc (r := q) (v := w) (rs := qs ++ rs) (vs := ws ++ vs) h h1
          cases k1 with
          | fz rp k1 =>
            obtain ⟨G2, B2, g2, k2, m⟩ := OkVs.escs (qs := qs) (ws := ws) k1 (by simpa using n) h2
            exact ⟨G2, B2, g1.trans g2, .fz (rp.mono (g2.gg k1.base.1)) k2, by simp [m]⟩
end
end
end DN
set_option maxHeartbeats 2000000
namespace DN
open PySem PySem.Spec PyProof.Rows L2
open Evl (Ex)
/-- an error on its way: its class, its fields -/
structure Er where
  cls : Str
  fs : List (Str × D)
inductive O (α : Type) where
  | ok (ρ : Env) (a : α) | er (ρ : Env) (e : Er) | un
def O.bind {α β : Type} (o : O α) (f : Env → α → O β) : O β := match o with
  | .ok ρ a => f ρ a
  | .er ρ e => .er ρ e
  | .un => .un
theorem nr {α : Sort u} {a b : α} (h : a = b) : a = b := by
  cases h
  exact Eq.refl _
@[simp] theorem O.bind_ok {α β : Type} {ρ : Env} {a : α} {f : Env → α → O β} : (O.ok ρ a).bind f = f ρ a := nr rfl
@[simp] theorem O.bind_er {α β : Type} {ρ : Env} {e : Er} {f : Env → α → O β} : (O.er ρ e : O α).bind f = .er ρ e := nr rfl
@[simp] theorem O.bind_un {α β : Type} {f : Env → α → O β} : (O.un : O α).bind f = .un := nr rfl
def OkEr (K : PySem.W.Frag) (G : Hp) (e : Er) (c : Value) (d : Option Addr) : Prop :=
  c = .ref (He.ga K e.cls) ∧ ((e.fs = [] ∧ d = none) ∨ ∃ dx fws, d = some dx ∧ G dx = some (.xd fws) ∧ RepF K G e.fs fws)
def Post {α : Type} (K : PySem.W.Frag) (W : WX) (L : Lent) (G B : Hp) (σ : L2.St) (o : O α) (S : Env → α → Hp → Hp → Hp → Prop) : Prop := match o with
  | .ok ρ' a => ∀ G' B' H', Grow G B G' B' → S ρ' a G' B' H'
  | .er ρ' e => ∀ G' B' H' c d, Grow G B G' B' → OkS K L G' B' H' σ ρ' → OkEr K G' e c d → W c d σ H'
  | .un => False
section
variable {α β : Type} {K : PySem.W.Frag} {W : WX} {L : Lent} {G G' B B' : Hp} {σ : L2.St} {o : O α} {f : Env → α → O β} {S S' : Env → α → Hp → Hp → Hp → Prop} {T : Env → β → Hp → Hp → Hp → Prop}
theorem Post.grow (h : Post K W L G B σ o S) (g : Grow G B G' B') : Post K W L G' B' σ o S := by
  cases o with
  | ok ρ a => exact fun G2 B2 H2 g2 => h G2 B2 H2 (g.trans g2)
  | er ρ e => exact fun G2 B2 H2 c d g2 => h G2 B2 H2 c d (g.trans g2)
  | un => exact h
theorem Post.bind (h : Post K W L G B σ (o.bind f) T) : Post K W L G B σ o fun ρ' a G' B' H' => Post K W L G' B' σ (f ρ' a) T := by
  cases o with
  | ok ρ a => exact fun G2 B2 H2 g => Post.grow (show Post K W L G B σ (f ρ a) T from h) g
  | er ρ e => exact h
  | un => exact h
theorem Post.imp (h : Post K W L G B σ o S) (k : ∀ ρ a G' B' H', Grow G B G' B' → S ρ a G' B' H' → S' ρ a G' B' H') : Post K W L G B σ o S' := by
  cases o with
  | ok ρ a => exact fun G2 B2 H2 g => k _ _ _ _ _ g (h G2 B2 H2 g)
  | er ρ e => exact h
  | un => exact h
theorem Post.okD {ρ : Env} {a : α} (h : Post K W L G B σ (.ok ρ a) S) (H : Hp) : S ρ a G B H := h G B H .refl
end
/-- a reading gives f -/
def SemE (X : Cx) (W : WX) (t : TE) (f : Env → O R) : Prop := ∀ L G B H σ ρ Q, OkS X.K L G B H σ ρ →
  Post X.K W L G B σ (f ρ) (fun ρ' r G' B' H' => ∀ v, OkVs X.K L G' H' σ ρ' B' [r] [v] → Q v H') → t σ H Q
def SemA (X : Cx) (W : WX) (t : TA) (f : Env → O (List R)) : Prop := ∀ L G B H σ ρ Q, OkS X.K L G B H σ ρ →
  Post X.K W L G B σ (f ρ) (fun ρ' rs G' B' H' => ∀ vs, OkVs X.K L G' H' σ ρ' B' rs vs → Q vs H') → t σ H Q
def SemT (X : Cx) (W : WX) (t : TT) (f : Env → O Bool) : Prop := ∀ L G B H σ ρ Q, OkS X.K L G B H σ ρ →
  Post X.K W L G B σ (f ρ) (fun ρ' b G' B' H' => OkS X.K L G' B' H' σ ρ' → Q b H') → t σ H Q
/-- an expression gives f -/
def DE (X : Cx) (W : WX) (e : Expr) (t : TE) (f : Env → O R) : Prop := PE X e t ∧ SemE X W t f
def DA (X : Cx) (W : WX) (es : List Expr) (t : TA) (f : Env → O (List R)) : Prop := PA X es t ∧ SemA X W t f
def DT (X : Cx) (W : WX) (e : Expr) (t : TT) (f : Env → O Bool) : Prop := PT X e t ∧ SemT X W t f
def DW (X : Cx) (W : WX) (e : Expr) (t : TT) (f : Env → O Bool) : Prop := PW X e t ∧ SemT X W t f
def untp (ρ : Env) (r : R) : O R := match r with
  | .tp qs => match escR ρ (.tp qs) with
    | some (ρ', d) => .ok ρ' (.fz d)
    | none => .un
  | r => .ok ρ r
def esc (ρ : Env) (r : R) : O D := match escR ρ r with
  | some (ρ', d) => .ok ρ' d
  | none => .un
def use1 (ρ : Env) (r : R) : O D := match useR ρ r with
  | some d => .ok ρ d
  | none => .un
section
variable {K : PySem.W.Frag} {W : WX} {L : Lent} {G B H : Hp} {σ : L2.St} {ρ : Env} {r : R} {rs : List R} {v : V} {vs : List V}
theorem OkVs.untp {S : Env → R → Hp → Hp → Hp → Prop} (h : OkVs K L G H σ ρ B (r :: rs) (v :: vs)) (p : Post K W L G B σ (untp ρ r) S) :
    ∃ ρ' r' G' B', untp ρ r = .ok ρ' r' ∧ Grow G B G' B' ∧ OkVs K L G' H σ ρ' B' (r' :: rs) (v :: vs) ∧ S ρ' r' G' B' H := by
  cases r with
  | fz d => exact ⟨_, _, _, _, rfl, .refl, h, Post.okD p H⟩
  | own d => exact ⟨_, _, _, _, rfl, .refl, h, Post.okD p H⟩
  | bor i => exact ⟨_, _, _, _, rfl, .refl, h, Post.okD p H⟩
  | tp qs =>
    unfold DN.untp at p ⊢
    cases e : escR ρ (.tp qs) with
    | none => simp only [e] at p; exact p.elim
    | some x =>
      obtain ⟨ρ', d⟩ := x
      simp only [e] at p ⊢
      obtain ⟨G', B', g, k⟩ := h.esc e
      exact ⟨_, _, G', B', rfl, g, k, p G' B' H g⟩
theorem OkVs.escP {S : Env → D → Hp → Hp → Hp → Prop} (h : OkVs K L G H σ ρ B (r :: rs) (v :: vs)) (p : Post K W L G B σ (DN.esc ρ r) S) :
    ∃ ρ' d G' B', DN.esc ρ r = .ok ρ' d ∧ Grow G B G' B' ∧ OkVs K L G' H σ ρ' B' (.fz d :: rs) (v :: vs) ∧ S ρ' d G' B' H := by
  unfold DN.esc at p ⊢
  cases e : escR ρ r with
  | none => simp only [e] at p; exact p.elim
  | some x =>
    obtain ⟨ρ', d⟩ := x
    simp only [e] at p ⊢
    obtain ⟨G', B', g, k⟩ := h.esc e
    exact ⟨_, _, G', B', rfl, g, k, p G' B' H g⟩
/-- pending things that are not escaping: their data -/
theorem OkVs.fzI (h : OkVs K L G H σ ρ B (.fz d :: rs) (v :: vs)) : Rep K G d v ∧ OkVs K L G H σ ρ B rs vs := by
  cases h with
  | fz a b => exact ⟨a, b⟩
end
/-- what an operator gives: a value over G, a new object -/
def Res (K : PySem.W.Frag) (G H : Hp) (Q : VK) : R → Prop
  | .fz d => ∀ v, Rep K G d v → Q v H
  | .own d => ∀ p o, H p = none → RepO K G d o → Q (.ref p) (upd H p o)
  | _ => False
theorem OkS.new {K : PySem.W.Frag} {L : Lent} {G B H : Hp} {σ : L2.St} {ρ : Env} {p : Addr} {o : HO} (s : OkS K L G B H σ ρ) (hp : H p = none) : OkS K L G (upd B p o) (upd H p o) σ ρ := by
  have hb : B p = none := none_of_ex s.bh hp
  refine ⟨s.gb.trans (Ex.new hb), s.lb.ex (Ex.new hb), ex_upd s.bh, s.len, s.fz, fun i d h => ?_, s.ln, s.dis⟩
  obtain ⟨l, u, a, b, c, e⟩ := s.ow i d h
  have hl := ne_of_none c hp
  exact ⟨l, u, a, by rw [upd_ne hl]; exact b, by rw [upd_ne hl]; exact c, e⟩
theorem OkS.same {K : PySem.W.Frag} {L : Lent} {G B H : Hp} {σ : L2.St} {ρ : Env} {p : Addr} {o : HO} (s : OkS K L G B H σ ρ) (hp : H p = none) : OkS K L G B (upd H p o) σ ρ :=
  (s.new hp).anti (Ex.new (none_of_ex s.bh hp)) s.gb s.lb
theorem OkS.own {K : PySem.W.Frag} {L : Lent} {G B H : Hp} {σ : L2.St} {ρ : Env} {p : Addr} {o : HO} {d : D} (s : OkS K L G B H σ ρ) (hp : H p = none) (r : RepO K G d o) : OkVs K L G (upd H p o) σ ρ B [.own d] [.ref p] :=
  have hb : B p = none := none_of_ex s.bh hp
  .own (none_of_ex s.gb hb) (s.lb.nl hb) hb r (.nil (s.new hp))
theorem OkS.tup {K : PySem.W.Frag} {L : Lent} {G B H : Hp} {σ : L2.St} {ρ : Env} {p : Addr} {rs : List R} {vs : List V} (s : OkVs K L G H σ ρ B rs vs) (hp : H p = none) : OkVs K L G (upd H p (.tup vs)) σ ρ B [.tp rs] [.ref p] := by
  have hb : B p = none := none_of_ex s.base.2.2 hp
  refine .tp (none_of_ex s.base.1 hb) (s.base.2.1.nl hb) hb s.length ?_
  rw [List.append_nil, List.append_nil]
  -- every piece stands in the larger heaps
  have key : ∀ (ws0 : List V) {B : Hp} {rs : List R} {vs : List V}, OkVs K L G H σ ρ B rs vs → OkVs K L G (upd H p (.tup ws0)) σ ρ (upd B p (.tup ws0)) rs vs := by
    intro ws0 B rs vs h
    induction h with
    | nil s => exact .nil (s.new hp)
    | fz a _ ih => exact .fz a ih
    | bor a _ ih => exact .bor a ih
    | @own B l o d rs vs g l0 b r h ih =>
      have hl : l ≠ p := ne_of_none (h.base.2.2 l o upd_same) hp
      refine .own g l0 (by rw [upd_ne hl]; exact b) r ?_
      rw [upd_comm (Ne.symm hl)]
      exact ih
    | @tp B l qs ws rs vs g l0 b n h ih =>
      have hl : l ≠ p := ne_of_none (h.base.2.2 l _ upd_same) hp
      refine .tp g l0 (by rw [upd_ne hl]; exact b) n ?_
      rw [upd_comm (Ne.symm hl)]
      exact ih
  exact key vs s
theorem OkS.res {K : PySem.W.Frag} {W : WX} {L : Lent} {G B H : Hp} {σ : L2.St} {ρ : Env} {Q : VK} {z : R} (s : OkS K L G B H σ ρ) (hz : ∀ qs, z ≠ .tp qs) (hb : ∀ i, z ≠ .bor i)
    (p : ∀ H' v, OkVs K L G H' σ ρ B [z] [v] → Q v H') : Res K G H Q z := by
  cases z with
  | fz d => exact fun v r => p H v (.fz r (.nil s))
  | own d => exact fun a o ha r => p _ _ (s.own ha r)
  | bor i => exact (hb i rfl).elim
  | tp qs => exact (hz qs rfl).elim
def OpSound (K : PySem.W.Frag) (g : D → D → Option R) (r : R2) : Prop := ∀ G H x y v u z Q, Ex G H → Top K G H x v → Top K G H y u → g x y = some z → Res K G H Q z → r v u H Q
def UnSound (K : PySem.W.Frag) (g : D → Option R) (r : V → Hp → VK → Prop) : Prop := ∀ G H x v z Q, Ex G H → Top K G H x v → g x = some z → Res K G H Q z → r v H Q
inductive Tops (K : PySem.W.Frag) (G H : Hp) : List D → List V → Prop where
  | nil : Tops K G H [] []
  | cons {d v ds vs} : Top K G H d v → Tops K G H ds vs → Tops K G H (d :: ds) (v :: vs)
def CallSound (K : PySem.W.Frag) (g : List D → Option R) (r : List V → Hp → VK → Prop) : Prop := ∀ G H ds vs z Q, Ex G H → Tops K G H ds vs → g ds = some z → Res K G H Q z → r vs H Q
def ret (ρ : Env) : Option R → O R
  | some (.fz d) => .ok ρ (.fz d)
  | some (.own d) => .ok ρ (.own d)
  | _ => .un
def lift2 (g : D → D → Option R) (ρ : Env) (r1 r2 : R) : O R := match useR ρ r1, useR ρ r2 with
  | some x, some y => ret ρ (g x y)
  | _, _ => .un
def dN (f : Env → O R) : Env → O R := fun ρ => (f ρ).bind untp
def dOp (g : D → D → Option R) (f h : Env → O R) : Env → O R := fun ρ => (dN f ρ).bind fun ρ r1 => (dN h ρ).bind fun ρ r2 => lift2 g ρ r1 r2
def dUn (g : D → Option R) (f : Env → O R) : Env → O R := fun ρ => (dN f ρ).bind fun ρ r => (use1 ρ r).bind fun ρ d => ret ρ (g d)
def dVar (i : Nat) : Env → O R := fun ρ => match getD ρ i with
  | some _ => .ok ρ (.bor i)
  | none => .un
def dC (d : D) : Env → O R := fun ρ => .ok ρ (.fz d)
section
variable {X : Cx} {W : WX} {e a b : Expr} {f h : Env → O R} {pos : Pos} {ta tb : TE} {tr : TA} {tta ttb : TT}
theorem ret_ok {K : PySem.W.Frag} {W : WX} {L : Lent} {G B H : Hp} {σ : L2.St} {ρ : Env} {Q : VK} {z : Option R} (s : OkS K L G B H σ ρ)
    (p : Post K W L G B σ (ret ρ z) fun ρ' r G' B' H' => ∀ v, OkVs K L G' H' σ ρ' B' [r] [v] → Q v H') : ∃ y, z = some y ∧ Res K G H Q y := by
  cases z with
  | none => exact False.elim p
  | some y =>
    cases y with
    | fz d => exact ⟨_, rfl, s.res (W := W) (by simp) (by simp) fun H' v k => Post.okD p H' v k⟩
    | own d => exact ⟨_, rfl, s.res (W := W) (by simp) (by simp) fun H' v k => Post.okD p H' v k⟩
    | bor i => exact False.elim p
    | tp qs => exact False.elim p
theorem de_var (i : Nat) {x : Str} (hN : X.N[i]? = some x := by rfl) (hv : Vis X.env.scope x := by first | exact Or.inl rfl | exact Or.inr (Or.inl rfl) | exact Or.inr (Or.inr rfl)) (hd : (x == ("__debug__" : Str)) = false := by decide)
    (hcd : (x == ("__classdict__" : Str)) = false := by decide) : DE X W (.Name x pos) (tVar i) (dVar i) := by
  refine ⟨pe_var hN hv hd hcd, fun L G B H σ ρ Q s p => ?_⟩
  unfold dVar at p
  cases e : getD ρ i with
  | none => simp only [e] at p; exact p.elim
  | some d =>
    simp only [e] at p
    obtain ⟨v, hv⟩ := s.has e
    exact ⟨v, hv, Post.okD p H v (.bor hv (.nil s))⟩
theorem de_c {v : V} {d : D} (he : PE X e (tC v)) (r : ∀ H, Rep X.K H d v) : DE X W e (tC v) (dC d) :=
  ⟨he, fun L G B H σ ρ Q s p => Post.okD p H v (.fz (r G) (.nil s))⟩
theorem de_int {i : Int} {j} : DE X W (.Constant (.int i) j pos) (tC (.int i)) (dC (.int i)) := de_c pe_int fun _ => .int
theorem de_bl {b : Bool} {j} : DE X W (.Constant (.bool b) j pos) (tC (.bl b)) (dC (.bl b)) := de_c pe_bl fun _ => .bl
theorem de_non {j} : DE X W (.Constant .none j pos) (tC .non) (dC .non) := de_c pe_non fun _ => .non
theorem de_str {x : Str} {j} : DE X W (.Constant (.str x) j pos) (tC (.str x)) (dC (.str x)) := de_c pe_str fun _ => .str
theorem SemE.n {t : TE} (ha : SemE X W t f) : SemE X W t (dN f) := fun L G B H σ ρ Q s p =>
  ha L G B H σ ρ Q s ((Post.bind p).imp fun ρ1 r1 G1 B1 H1 _ q1 v k1 => by
    obtain ⟨ρ2, r2, G2, B2, _, g2, k2, q2⟩ := k1.untp q1
    exact q2 v k2)
/-- one more behind what is held -/
theorem OkVs.thenE {t : TE} {L : Lent} {G B H : Hp} {σ : L2.St} {ρ : Env} {Q : VK} {rs : List R} {vs : List V} (k : OkVs X.K L G H σ ρ B rs vs) (hb : SemE X W t h)
    (p : Post X.K W L G B σ (h ρ) (fun ρ' r G' B' H' => ∀ v, OkVs X.K L G' H' σ ρ' B' (rs ++ [r]) (vs ++ [v]) → Q v H')) : t σ H Q := by
  obtain ⟨B3, e3, s3, hold⟩ := k.hold
  refine hb L G B3 H σ ρ _ s3 ?_
  cases eh : h ρ with
  | un => rw [eh] at p; exact p
  | er ρ4 e4 =>
    rw [eh] at p
    intro G' B' H' c d gr s4 oe
    obtain ⟨B5, g5, k5⟩ := hold gr (.nil s4)
    exact p G' B5 H' c d g5 (k5.state k5.length) oe
  | ok ρ4 r4 =>
    rw [eh] at p
    intro G' B' H' gr w k4
    obtain ⟨B5, g5, k5⟩ := hold gr k4
    exact p G' B5 H' g5 w k5
theorem OkVs.thenA {t : TA} {L : Lent} {G B H : Hp} {σ : L2.St} {ρ : Env} {Q : List V → Hp → Prop} {rs : List R} {vs : List V} {h : Env → O (List R)} (k : OkVs X.K L G H σ ρ B rs vs) (hb : SemA X W t h)
    (p : Post X.K W L G B σ (h ρ) (fun ρ' ss G' B' H' => ∀ us, OkVs X.K L G' H' σ ρ' B' (rs ++ ss) (vs ++ us) → Q us H')) : t σ H Q := by
  obtain ⟨B3, e3, s3, hold⟩ := k.hold
  refine hb L G B3 H σ ρ _ s3 ?_
  cases eh : h ρ with
  | un => rw [eh] at p; exact p
  | er ρ4 e4 =>
    rw [eh] at p
    intro G' B' H' c d gr s4 oe
    obtain ⟨B5, g5, k5⟩ := hold gr (.nil s4)
    exact p G' B5 H' c d g5 (k5.state k5.length) oe
  | ok ρ4 r4 =>
    rw [eh] at p
    intro G' B' H' gr w k4
    obtain ⟨B5, g5, k5⟩ := hold gr k4
    exact p G' B5 H' g5 w k5
theorem lift2_ok {K : PySem.W.Frag} {L : Lent} {G B H : Hp} {σ : L2.St} {ρ : Env} {Q : VK} {g : D → D → Option R} {r : R2} {r1 r2 : R} {v u : V} (hg : OpSound K g r) (k : OkVs K L G H σ ρ B [r1, r2] [v, u])
    (p : Post K W L G B σ (lift2 g ρ r1 r2) fun ρ' r G' B' H' => ∀ v, OkVs K L G' H' σ ρ' B' [r] [v] → Q v H') : r v u H Q := by
  have s := k.state
  unfold lift2 at p
  cases u1 : useR ρ r1 with
  | none => simp only [u1] at p; exact p.elim
  | some x =>
    cases u2 : useR ρ r2 with
    | none => simp only [u1, u2] at p; exact p.elim
    | some y =>
      simp only [u1, u2] at p
      obtain ⟨z, ez, rz⟩ := ret_ok s p
      exact hg G H x y v u z Q s.gh (k.use u1) (k.tail.use u2) ez rz
/-- two operands in a row -/
theorem two {t u : TE} {g : D → D → Option R} {r : R2} (hg : OpSound X.K g r) (ha : SemE X W t f) (hb : SemE X W u h) : SemE X W (tOp r t u) (dOp g f h) := fun L G B H σ ρ Q s p =>
  ha.n L G B H σ ρ _ s ((Post.bind p).imp fun ρ1 r1 G1 B1 H1 _ q1 v k1 => k1.thenE hb.n ((Post.bind q1).imp fun ρ2 r2 G2 B2 H2 _ q2 w k2 => lift2_ok hg k2 q2))
theorem one {t : TE} {g : D → Option R} {r : V → Hp → VK → Prop} (hg : UnSound X.K g r) (ha : SemE X W t f) : SemE X W (tUn r t) (dUn g f) := fun L G B H σ ρ Q s p =>
  ha.n L G B H σ ρ _ s ((Post.bind p).imp fun ρ2 r2 G2 B2 H1 _ q2 v k2 => by
    have s2 := k2.state
    unfold use1 at q2
    cases u : useR ρ2 r2 with
    | none => simp only [u] at q2; exact q2.elim
    | some d =>
      simp only [u] at q2
      obtain ⟨z, ez, rz⟩ := ret_ok s2 q2
      exact hg G2 H1 d v z Q s2.gh (k2.use u) ez rz)
theorem de_op {op : Operator} {g : D → D → Option R} {r : R2} (ho : OpR X (binaryOp op) r) (hg : OpSound X.K g r) (ha : DE X W a ta f) (hb : DE X W b tb h) : DE X W (.BinOp a op b pos) (tOp r ta tb) (dOp g f h) := by
  obtain ⟨pt, ha⟩ := ha
  obtain ⟨pu, hb⟩ := hb
  exact ⟨pe_op ho pt pu, two hg ha hb⟩
theorem de_cmp {op : CmpOp} {g : D → D → Option R} {r : R2} (ho : OpR X (compareOp op) r) (hg : OpSound X.K g r) (ha : DE X W a ta f) (hb : DE X W b tb h) (hm : behindInMarks op b = false := by first | exact nomark _ | rfl) : DE X W (.Compare a [op] [b] pos) (tOp r ta tb) (dOp g f h) := by
  obtain ⟨pt, ha⟩ := ha
  obtain ⟨pu, hb⟩ := hb
  exact ⟨pe_cmpR ho pt pu hm, two hg ha hb⟩
theorem de_un {op : UnaryOp} {g : D → Option R} {r : V → Hp → VK → Prop} (ho : UnR X (unaryOp op) r) (hg : UnSound X.K g r) (ha : DE X W a ta f) : DE X W (.UnaryOp op a pos) (tUn r ta) (dUn g f) := by
  obtain ⟨pt, ha⟩ := ha
  exact ⟨pe_un ho pt, one hg ha⟩
def dTest (f : Env → O R) : Env → O Bool := fun ρ => (dN f ρ).bind fun ρ r => match useR ρ r with
  | some (.bl b) => .ok ρ b
  | _ => .un
theorem sem_test {t : TE} (ha : SemE X W t f) : SemT X W (tTest t) (dTest f) := fun L G B H σ ρ Q s p =>
  ha.n L G B H σ ρ _ s ((Post.bind p).imp fun ρ2 r2 G2 B2 H1 _ q2 v k2 => by
    have s2 := k2.state
    cases u : useR ρ2 r2 with
    | none => simp only [u] at q2; exact q2.elim
    | some d =>
      simp only [u] at q2
      cases d <;> try exact q2.elim
      have t := k2.use u
      cases t
      exact ⟨_, rfl, Post.okD q2 H1 s2⟩)
theorem dt_cmp {op : CmpOp} {g : D → D → Option R} {r : R2} (ho : OpR X (compareOp op) r) (hg : OpSound X.K g r) (ha : DE X W a ta f) (hb : DE X W b tb h) (hm : behindInMarks op b = false := by first | exact nomark _ | rfl) : DT X W (.Compare a [op] [b] pos) (tTest (tOp r ta tb)) (dTest (dOp g f h)) := by
  obtain ⟨pt, ha⟩ := ha
  obtain ⟨pu, hb⟩ := hb
  exact ⟨pt_cmpR ho pt pu hm, sem_test (two hg ha hb)⟩
variable {c : Expr} {rest : List Expr} {ft fu : Env → O Bool}
def dAnd (f g : Env → O Bool) : Env → O Bool := fun ρ => (f ρ).bind fun ρ b => if b = true then g ρ else .ok ρ false
def dOr (f g : Env → O Bool) : Env → O Bool := fun ρ => (f ρ).bind fun ρ b => if b = true then .ok ρ true else g ρ
def dNot (f : Env → O Bool) : Env → O Bool := fun ρ => (f ρ).bind fun ρ b => .ok ρ (!b)
theorem DW.dt (h : DW X W e tta ft) : DT X W e tta ft := ⟨h.1.pt, h.2⟩
theorem dw_and1 (ha : DT X W a tta ft) : DW X W (.BoolOp .And [a] pos) tta ft := ⟨pw_and1 ha.1, ha.2⟩
theorem dw_or1 (ha : DT X W a tta ft) : DW X W (.BoolOp .Or [a] pos) tta ft := ⟨pw_or1 ha.1, ha.2⟩
theorem dw_and (ha : DT X W a tta ft) (hb : DW X W (.BoolOp .And (b :: rest) pos) ttb fu) : DW X W (.BoolOp .And (a :: b :: rest) pos) (tAnd tta ttb) (dAnd ft fu) := by
  obtain ⟨pt, ha⟩ := ha
  obtain ⟨pu, hb⟩ := hb
  refine ⟨pw_and pt pu, fun L G B H σ ρ Q s p => ha L G B H σ ρ _ s ((Post.bind p).imp fun ρ1 b1 G1 B1 H1 _ q s1 => ?_)⟩
  cases b1 with
  | true => exact hb L G1 B1 H1 σ ρ1 Q s1 q
  | false => exact Post.okD q H1 s1
theorem dw_or (ha : DT X W a tta ft) (hb : DW X W (.BoolOp .Or (b :: rest) pos) ttb fu) : DW X W (.BoolOp .Or (a :: b :: rest) pos) (tOr tta ttb) (dOr ft fu) := by
  obtain ⟨pt, ha⟩ := ha
  obtain ⟨pu, hb⟩ := hb
  refine ⟨pw_or pt pu, fun L G B H σ ρ Q s p => ha L G B H σ ρ _ s ((Post.bind p).imp fun ρ1 b1 G1 B1 H1 _ q s1 => ?_)⟩
  cases b1 with
  | true => exact Post.okD q H1 s1
  | false => exact hb L G1 B1 H1 σ ρ1 Q s1 q
theorem dt_not (ha : DT X W a tta ft) : DT X W (.UnaryOp .Not a pos) (tNot tta) (dNot ft) := by
  obtain ⟨pt, ha⟩ := ha
  exact ⟨pt_not pt, fun L G B H σ ρ Q s p => ha L G B H σ ρ _ s ((Post.bind p).imp fun ρ1 b1 G1 B1 H1 _ q s1 => Post.okD q H1 s1)⟩
def dIf (c : Env → O Bool) (f g : Env → O R) : Env → O R := fun ρ => (c ρ).bind fun ρ b => if b = true then f ρ else g ρ
theorem de_if (hc : DT X W c tta ft) (ha : DE X W a ta f) (hb : DE X W b tb h) : DE X W (.IfExp c a b pos) (tIf tta ta tb) (dIf ft f h) := by
  obtain ⟨pt, hc⟩ := hc
  obtain ⟨pu, ha⟩ := ha
  obtain ⟨pw, hb⟩ := hb
  refine ⟨pe_ifExp pt pu pw, fun L G B H σ ρ Q s p => hc L G B H σ ρ _ s ((Post.bind p).imp fun ρ1 b1 G1 B1 H1 _ q s1 => ?_)⟩
  cases b1 with
  | true => exact ha L G1 B1 H1 σ ρ1 Q s1 q
  | false => exact hb L G1 B1 H1 σ ρ1 Q s1 q
def dAndV (f g : Env → O R) : Env → O R := fun ρ => (dTest f ρ).bind fun ρ b => if b = true then g ρ else .ok ρ (.fz (.bl false))
def dOrV (f g : Env → O R) : Env → O R := fun ρ => (dTest f ρ).bind fun ρ b => if b = true then .ok ρ (.fz (.bl true)) else g ρ
def dNotV (f : Env → O R) : Env → O R := fun ρ => (dTest f ρ).bind fun ρ b => .ok ρ (.fz (.bl (!b)))
theorem de_one {op} (ha : DE X W a ta f) : DE X W (.BoolOp op [a] pos) ta f := ⟨pe_one ha.1, ha.2⟩
theorem sem_testV {t : TE} (ha : SemE X W t f) {L : Lent} {G B H : Hp} {σ : L2.St} {ρ : Env} {k : Env → Bool → O R} {Q : VK} {Z : Bool → Hp → Prop} (s : OkS X.K L G B H σ ρ)
    (p : Post X.K W L G B σ ((dTest f ρ).bind k) fun ρ' r G' B' H' => ∀ v, OkVs X.K L G' H' σ ρ' B' [r] [v] → Q v H')
    (hz : ∀ ρ1 b G1 B1 H1, OkS X.K L G1 B1 H1 σ ρ1 → Post X.K W L G1 B1 σ (k ρ1 b) (fun ρ' r G' B' H' => ∀ v, OkVs X.K L G' H' σ ρ' B' [r] [v] → Q v H') → Z b H1) :
    t σ H fun x H1 => ∃ b, x = .bl b ∧ Z b H1 := sem_test ha L G B H σ ρ Z s ((Post.bind p).imp fun ρ1 b1 G1 B1 H1 _ q s1 => hz ρ1 b1 G1 B1 H1 s1 q)
theorem de_and (ha : DE X W a ta f) (hb : DE X W (.BoolOp .And (b :: rest) pos) tb h) : DE X W (.BoolOp .And (a :: b :: rest) pos) (tAndV ta tb) (dAndV f h) := by
  obtain ⟨pt, ha⟩ := ha
  obtain ⟨pu, hb⟩ := hb
  refine ⟨pe_and pt pu, fun L G B H σ ρ Q s p => sem_testV ha s p fun ρ1 b1 G1 B1 H1 s1 q => ?_⟩
  cases b1 with
  | true => exact hb L G1 B1 H1 σ ρ1 Q s1 q
  | false => exact Post.okD q H1 _ (.fz .bl (.nil s1))
theorem de_or (ha : DE X W a ta f) (hb : DE X W (.BoolOp .Or (b :: rest) pos) tb h) : DE X W (.BoolOp .Or (a :: b :: rest) pos) (tOrV ta tb) (dOrV f h) := by
  obtain ⟨pt, ha⟩ := ha
  obtain ⟨pu, hb⟩ := hb
  refine ⟨pe_or pt pu, fun L G B H σ ρ Q s p => sem_testV ha s p fun ρ1 b1 G1 B1 H1 s1 q => ?_⟩
  cases b1 with
  | true => exact Post.okD q H1 _ (.fz .bl (.nil s1))
  | false => exact hb L G1 B1 H1 σ ρ1 Q s1 q
def dNil : Env → O (List R) := fun ρ => .ok ρ []
def dCons (f : Env → O R) (g : Env → O (List R)) : Env → O (List R) := fun ρ => (f ρ).bind fun ρ r => (g ρ).bind fun ρ rs => .ok ρ (r :: rs)
theorem da_nil : DA X W [] tNil dNil := ⟨pa_nil, fun L G B H σ ρ Q s p => Post.okD p H [] (.nil s)⟩
variable {es : List Expr} {fs : Env → O (List R)}
theorem da_cons (ha : DE X W e ta f) (hr : DA X W es tr fs) (hs : starEach (e :: es) X.env = (false, eval e X.env) :: starEach es X.env := by rfl) : DA X W (e :: es) (tCons ta tr) (dCons f fs) := by
  obtain ⟨pt, ha⟩ := ha
  obtain ⟨pu, hr⟩ := hr
  exact ⟨pa_cons pt pu hs, fun L G B H σ ρ Q s p => ha L G B H σ ρ _ s ((Post.bind p).imp fun ρ1 r1 G1 B1 H1 _ q v k => k.thenA hr ((Post.bind q).imp fun ρ2 r2 G2 B2 H2 _ q2 w k2 => Post.okD q2 H2 _ k2))⟩
/-- all of them frozen -/
def escs (ρ : Env) (rs : List R) : O (List D) := match escRs ρ rs with
  | some (ρ', ds) => .ok ρ' ds
  | none => .un
theorem OkVs.escsP {K : PySem.W.Frag} {L : Lent} {G B H : Hp} {σ : L2.St} {ρ : Env} {rs : List R} {vs : List V} {S : Env → List D → Hp → Hp → Hp → Prop} (k : OkVs K L G H σ ρ B rs vs) (p : Post K W L G B σ (DN.escs ρ rs) S) :
    ∃ ρ' ds G' B', DN.escs ρ rs = .ok ρ' ds ∧ Grow G B G' B' ∧ OkS K L G' B' H σ ρ' ∧ Reps K G' ds vs ∧ S ρ' ds G' B' H := by
  unfold DN.escs at p ⊢
  cases e : escRs ρ rs with
  | none => simp only [e] at p; exact p.elim
  | some x =>
    obtain ⟨ρ', ds⟩ := x
    simp only [e] at p ⊢
    obtain ⟨G', B', g, k', m⟩ := OkVs.escs (qs := rs) (rs := []) (ws := vs) (vs := []) (by simpa using k) k.length e
    obtain ⟨r, k2⟩ := OkVs.fzs k' m
    exact ⟨_, _, G', B', rfl, g, k2.state, r, p G' B' H g⟩
def dLst (g : Env → O (List R)) : Env → O R := fun ρ => (g ρ).bind fun ρ rs => (escs ρ rs).bind fun ρ ds => if ds.length ≤ 100000 then .ok ρ (.own (.lst ds)) else .un
def dTup (g : Env → O (List R)) : Env → O R := fun ρ => (g ρ).bind fun ρ rs => if rs.length ≤ 100000 then .ok ρ (.tp rs) else .un
theorem line_of {n : Nat} (h : n ≤ 100000) : n ≤ sizeLine := Nat.le_trans h (by rw [sizeLine_eq]; decide)
theorem de_lst (ha : DA X W es tr fs) : DE X W (.List es pos) (tLst tr) (dLst fs) := by
  obtain ⟨pt, ha⟩ := ha
  refine ⟨pe_lst pt, fun L G B H σ ρ Q s p => ha L G B H σ ρ _ s ((Post.bind p).imp fun ρ1 r1 G1 B1 H1 _ q vs k => ?_)⟩
  obtain ⟨ρ2, ds, G2, B2, _, g2, s2, rp, q2⟩ := k.escsP (Post.bind q)
  by_cases hl : ds.length ≤ 100000
  · rw [if_pos hl] at q2
    exact ⟨by rw [rp.length]; exact line_of hl, fun a ha => Post.okD q2 _ _ (s2.own ha (.lst rp))⟩
  · rw [if_neg hl] at q2; exact q2.elim
theorem de_tup {x1} (ha : DA X W es tr fs) : DE X W (.Tuple es x1 pos) (tTup tr) (dTup fs) := by
  obtain ⟨pt, ha⟩ := ha
  refine ⟨pe_tup pt, fun L G B H σ ρ Q s p => ha L G B H σ ρ _ s ((Post.bind p).imp fun ρ1 r1 G1 B1 H1 _ q vs k => ?_)⟩
  by_cases hl : r1.length ≤ 100000
  · rw [if_pos hl] at q
    exact ⟨by rw [← k.length]; exact line_of hl, fun a ha => Post.okD q _ _ (OkS.tup k ha)⟩
  · rw [if_neg hl] at q; exact q.elim
/-- the operands of a call on values -/
def usesR (ρ : Env) : List R → Option (List D)
  | [] => some []
  | r :: rs => match useR ρ r, usesR ρ rs with
    | some d, some ds => some (d :: ds)
    | _, _ => none
theorem OkVs.uses {K : PySem.W.Frag} {L : Lent} {G H : Hp} {σ : L2.St} {ρ : Env} : ∀ {rs : List R} {vs : List V} {ds : List D} {B : Hp}, OkVs K L G H σ ρ B rs vs → usesR ρ rs = some ds → Tops K G H ds vs
  | [], vs, ds, B, k, u => by
    cases u
    cases k
    exact .nil
  | r :: rs, vs, ds, B, k, u => by
    have hl := k.length
    cases vs with
    | nil => simp at hl
    | cons v vs =>
      unfold usesR at u
      cases u1 : useR ρ r with
      | none => simp only [u1] at u; cases u
      | some d =>
        cases u2 : usesR ρ rs with
        | none => simp only [u1, u2] at u; cases u
        | some ds' =>
          simp only [u1, u2] at u
          cases u
          exact .cons (k.use u1 (by simpa using hl)) (OkVs.uses k.tail u2)
/-- tuples among the arguments are frozen -/
def dConsN (f : Env → O R) (g : Env → O (List R)) : Env → O (List R) := dCons (dN f) g
theorem da_consN (ha : DE X W e ta f) (hr : DA X W es tr fs) (hs : starEach (e :: es) X.env = (false, eval e X.env) :: starEach es X.env := by rfl) : DA X W (e :: es) (tCons ta tr) (dConsN f fs) :=
  da_cons ⟨ha.1, ha.2.n⟩ hr hs
def dCB (g : List D → Option R) (fs : Env → O (List R)) : Env → O R := fun ρ => (fs ρ).bind fun ρ rs => match usesR ρ rs with
  | some ds => ret ρ (g ds)
  | none => .un
theorem sem_cb {t : TA} {g : List D → Option R} {r : List V → Hp → VK → Prop} (hg : CallSound X.K g r) (ha : SemA X W t fs) : SemE X W (tCB r t) (dCB g fs) := fun L G B H σ ρ Q s p =>
  ha L G B H σ ρ _ s ((Post.bind p).imp fun ρ1 r1 G1 B1 H1 _ q vs k => by
    cases u : usesR ρ1 r1 with
    | none => simp only [u] at q; exact q.elim
    | some ds =>
      simp only [u] at q
      have s1 := k.state k.length
      obtain ⟨z, ez, rz⟩ := ret_ok s1 q
      exact hg G1 H1 ds vs z Q s1.gh (k.uses u) ez rz)
end
end DN
set_option maxHeartbeats 2000000
namespace DN
open PySem PySem.Spec PyProof.Rows L2
open Evl (Ex)
def band (i j : Int) : Int := Builtin.bitAnd i j
def bor (i j : Int) : Int := Builtin.bitOr i j
def bxor (i j : Int) : Int := Builtin.bitXor i j
def bnot (i : Int) : Int := Builtin.bitNot i
def ibits (i : Int) : Nat := Builtin.Int.intBits i
def okMul (i j : Int) : Bool := Nat.ble (ibits i) 64 || (Nat.ble (ibits j) 64 || Nat.ble (ibits i + ibits j) 134217728)
def okPow (i j : Int) : Bool := decide (0 ≤ j) && Nat.ble (ibits i * j.toNat) 134217728
def okShl (i j : Int) : Bool := decide (0 ≤ j) && Nat.ble (ibits i + j.toNat) 134217728
def okDiv (j : Int) : Bool := decide (0 < j) && Nat.blt j.natAbs.log2 9000
/-- powers of two as naturals: the kernel works them out quickly -/
def shlI (i j : Int) : Int := i * ((2 ^ j.toNat : Nat) : Int)
def shrI (i j : Int) : Int := i / ((2 ^ j.toNat : Nat) : Int)
def iI (c : Int → Int → Bool) (f : Int → Int → Int) (x y : D) : Option R := match x, y with
  | .int i, .int j => if c i j = true then some (.fz (.int (f i j))) else none
  | _, _ => none
def iB (f : Int → Int → Bool) (x y : D) : Option R := match x, y with
  | .int i, .int j => some (.fz (.bl (f i j)))
  | _, _ => none
section
variable {K : PySem.W.Frag} {X : Cx}
theorem Top.int_inv {G H : Hp} {i : Int} {v : V} (h : Top K G H (.int i) v) : v = .int i := by cases h; rfl
theorem Top.str_inv {G H : Hp} {i : Str} {v : V} (h : Top K G H (.str i) v) : v = .str i := by cases h; rfl
theorem sd_I {c : Int → Int → Bool} {f : Int → Int → Int} {C : Int → Int → Prop} (hc : ∀ i j, c i j = true → C i j) : OpSound K (iI c f) (rI C fun i j => .int (f i j)) := by
  intro G H x y v u z Q e hx hy g r
  unfold iI at g
  split at g
  · split at g
    · rename_i i j hcc
      cases g
      exact ⟨i, j, hx.int_inv, hy.int_inv, hc i j hcc, r _ .int⟩
    · cases g
  · cases g
theorem sd_I0 {f : Int → Int → Int} : OpSound K (iI (fun _ _ => true) f) (rI0 fun i j => .int (f i j)) := by
  intro G H x y v u z Q e hx hy g r
  unfold iI at g
  split at g
  · simp only [if_true] at g
    cases g
    exact ⟨_, _, hx.int_inv, hy.int_inv, r _ .int⟩
  · cases g
theorem sd_B0 {f : Int → Int → Bool} : OpSound K (iB f) (rI0 fun i j => .bl (f i j)) := by
  intro G H x y v u z Q e hx hy g r
  unfold iB at g
  split at g
  · cases g
    exact ⟨_, _, hx.int_inv, hy.int_inv, r _ .bl⟩
  · cases g
/-- one rule or another -/
def orE {α : Type} (a b : D → D → Option α) (x y : D) : Option α := match a x y with
  | some z => some z
  | none => b x y
theorem OpSound.or {g g' : D → D → Option R} {r r' : R2} (h : OpSound K g r) (h' : OpSound K g' r') : OpSound K (orE g g') fun x y H Q => r x y H Q ∨ r' x y H Q := by
  intro G H x y v u z Q e hx hy q w
  unfold orE at q
  cases e1 : g x y with
  | some z1 => rw [e1] at q; cases q; exact .inl (h G H x y v u z Q e hx hy e1 w)
  | none => rw [e1] at q; exact .inr (h' G H x y v u z Q e hx hy q w)
def strAdd (x y : D) : Option R := match x, y with
  | .str a, .str b => if a.length + b.length ≤ 1000000 then some (.fz (.str (a ++ b))) else none
  | _, _ => none
def lstAdd (x y : D) : Option R := match x, y with
  | .lst a, .lst b => if a.length + b.length ≤ 100000 then some (.own (.lst (a ++ b))) else none
  | _, _ => none
def tupAdd (x y : D) : Option R := match x, y with
  | .tup a, .tup b => if a.length + b.length ≤ 100000 ∧ a ≠ [] ∧ b ≠ [] then some (.own (.tup (a ++ b))) else none
  | _, _ => none
theorem million {n : Nat} (h : n ≤ 1000000) : n ≤ sizeLine := Nat.le_trans h (by rw [sizeLine_eq]; decide)
theorem sd_strAdd : OpSound K strAdd fun x y H Q => ∃ i j, x = .str i ∧ y = .str j ∧ i.length + j.length ≤ sizeLine ∧ Q (.str (i ++ j)) H := by
  intro G H x y v u z Q e hx hy g r
  unfold strAdd at g
  split at g
  · split at g
    · rename_i hl
      cases g
      exact ⟨_, _, hx.str_inv, hy.str_inv, million hl, r _ .str⟩
    · cases g
  · cases g
/-- lists that are read -/
def rCatR (K : PySem.W.Frag) : R2 := fun x y H Q => ∃ l b xs zs, x = .ref l ∧ y = .ref b ∧ SqX K H l xs ∧ SqX K H b zs ∧ xs.length + zs.length ≤ sizeLine ∧ ∀ p, H p = none → Q (.ref p) (upd H p (.lst (xs ++ zs)))
theorem op_catR : OpR X (binaryOp .Add) (rCatR X.K) := by
  intro pins s σ H x y v u Q I rx ry ⟨l, b, xs, zs, ex, ey, hl, hb, hz, q⟩
  subst ex; subst ey
  cases rx; cases ry
  obtain ⟨i1, n1, r1, e1, z1⟩ := hl.get I
  obtain ⟨i2, n2, r2, e2, z2⟩ := hb.get I
  have k1 := r1.length
  have k2 := r2.length
  refine PySem.P.add_list e1 e2 ?_ (by simp only [List.size_toArray]; omega)
  rw [show i1.toArray ++ i2.toArray = (i1 ++ i2).toArray by simp]
  exact ⟨.ref _, _, I.lnew (t' := s.toks) (r1.append r2) (by rw [List.length_append]; omega), rfl, q _ I.fresh⟩
theorem sd_lstAdd : OpSound K lstAdd (rCatR K) := by
  intro G H x y v u z Q e hx hy g r
  unfold lstAdd at g
  split at g
  · split at g
    · rename_i hl
      cases g
      cases hx with
      | lst a ra =>
        cases hy with
        | lst b rb =>
          refine ⟨_, _, _, _, rfl, rfl, a, b, by rw [ra.length, rb.length]; exact line_of hl, fun p hp => r p _ hp (.lst (ra.append rb))⟩
    · cases g
  · cases g
theorem sd_tupAdd : OpSound K tupAdd (rCatA K) := by
  intro G H x y v u z Q e hx hy g r
  unfold tupAdd at g
  split at g
  · split at g
    · rename_i hl
      cases g
      cases hx with
      | tup a ra =>
        cases hy with
        | tup b rb =>
          refine ⟨_, _, _, _, rfl, rfl, a, b, by rw [ra.length, rb.length]; exact line_of hl.1, fun z => ?_, fun _ z => ?_, fun _ _ p hp => r p _ hp (.tup (ra.append rb))⟩
          · subst z; cases ra; exact absurd rfl hl.2.1
          · subst z; cases rb; exact absurd rfl hl.2.2
    · cases g
  · cases g
def gAdd : D → D → Option R := orE (iI (fun _ _ => true) fun i j => i + j) (orE lstAdd (orE strAdd tupAdd))
def rAddA (K : PySem.W.Frag) : R2 := fun x y H Q => rI0 (fun i j => .int (i + j)) x y H Q ∨ rCatR K x y H Q ∨ (∃ i j, x = .str i ∧ y = .str j ∧ i.length + j.length ≤ sizeLine ∧ Q (.str (i ++ j)) H) ∨ rCatA K x y H Q
theorem o_add : OpR X (binaryOp .Add) (rAddA X.K) := OpR.or op_add (OpR.or op_catR (OpR.or op_add_str op_catA))
theorem s_add : OpSound K gAdd (rAddA K) := OpSound.or sd_I0 (OpSound.or sd_lstAdd (OpSound.or sd_strAdd sd_tupAdd))
def gSub : D → D → Option R := iI (fun _ _ => true) fun i j => i - j
theorem s_sub : OpSound K gSub (rI0 fun i j => .int (i - j)) := sd_I0
def lstRep (x y : D) : Option R := match x, y with
  | .lst a, .int k => if -1000000 ≤ k ∧ k ≤ 1000000 ∧ a.length * k.toNat ≤ 100000 then some (.own (.lst (List.replicate k.toNat a).flatten)) else none
  | _, _ => none
theorem CMulA {i j : Int} (h : okMul i j = true) : IntMulOk i j := by
  unfold okMul at h
  rcases Bool.or_eq_true_iff.mp h with h | h
  · exact IntMulOk.of_left (Nat.le_of_ble_eq_true h)
  · rcases Bool.or_eq_true_iff.mp h with h | h
    · exact IntMulOk.of_right (Nat.le_of_ble_eq_true h)
    · exact CMulX.ok (by have := Nat.le_of_ble_eq_true h; unfold ibits at this; show _ ≤ _; omega)
theorem okPow_ok {i j : Int} (h : okPow i j = true) : 0 ≤ j ∧ (Builtin.Int.intBits i : Int) * j ≤ 2 ^ 27 := by
  obtain ⟨h1, h2⟩ := Bool.and_eq_true_iff.mp h
  have h1 := of_decide_eq_true h1
  have h2 := Nat.le_of_ble_eq_true h2
  refine ⟨h1, ?_⟩
  obtain ⟨n, rfl⟩ := Int.eq_ofNat_of_zero_le h1
  have h3 : Builtin.Int.intBits i * n ≤ 134217728 := h2
  have e : (2 : Int) ^ 27 = 134217728 := by decide
  rw [e, ← Int.natCast_mul]
  exact Int.ofNat_le.mpr h3
theorem okShl_ok {i j : Int} (h : okShl i j = true) : CShl i j := by
  obtain ⟨h1, h2⟩ := Bool.and_eq_true_iff.mp h
  have h1 := of_decide_eq_true h1
  have h2 := Nat.le_of_ble_eq_true h2
  refine ⟨h1, ?_⟩
  have e : (2 : Int) ^ 27 = 134217728 := by decide
  rw [e]
  unfold ibits at h2
  omega
theorem okDiv_ok {j : Int} (h : okDiv j = true) : CDivW 0 j := by
  obtain ⟨h1, h2⟩ := Bool.and_eq_true_iff.mp h
  exact ⟨of_decide_eq_true h1, Nat.le_of_ble_eq_true h2⟩
theorem shlI_eq (i j : Int) : shlI i j = i * 2 ^ j.toNat := by
  unfold shlI
  rw [Int.natCast_pow]
  rfl
theorem shrI_eq (i j : Int) : shrI i j = i / 2 ^ j.toNat := by
  unfold shrI
  rw [Int.natCast_pow]
  rfl
theorem op_mulA : OpR X (binaryOp .Mult) (rI (fun i j => okMul i j = true) fun i j => .int (i * j)) := opI fun _ _ _ _ _ _ _ hc q => mul_int q (CMulA hc)
theorem Reps.rep {H : Hp} {ds : List D} {vs : List V} (h : Reps K H ds vs) : ∀ n : Nat, Reps K H (List.replicate n ds).flatten (List.replicate n vs).flatten
  | 0 => .nil
  | n + 1 => by
    rw [List.replicate_succ, List.replicate_succ, List.flatten_cons, List.flatten_cons]
    exact h.append (Reps.rep h n)
def rRepR (K : PySem.W.Frag) : R2 := fun x y H Q => ∃ l k xs, x = .ref l ∧ y = .int k ∧ SqX K H l xs ∧ -(2 ^ 63) ≤ k ∧ k < 2 ^ 63 ∧ xs.length * k.toNat ≤ sizeLine ∧
  ∀ p, H p = none → Q (.ref p) (upd H p (.lst (List.replicate k.toNat xs).flatten))
theorem op_repR : OpR X (binaryOp .Mult) (rRepR X.K) := by
  intro pins s σ H x y v u Q I rx ry ⟨l, k, xs, ex, ey, hl, h1, h2, hz, q⟩
  subst ex; subst ey
  cases rx
  obtain ⟨t, et⟩ := ry
  subst et
  obtain ⟨its, n, r, e, z⟩ := hl.get I
  have kl := r.length
  have hlen : its.toArray.size * k.toNat ≤ sizeLine := by simp only [List.size_toArray, ← kl]; exact hz
  have a1 : ¬ its.toArray.size * k.toNat > (2 ^ 63 - 1) / 8 := by
    have : (sizeLine : Nat) ≤ (2 ^ 63 - 1) / 8 := by rw [sizeLine_eq]; decide
    omega
  have a2 : ¬ (!Builtin.List.listFitsIndex k) = true := by rw [fitsIndex_both h1 h2]; decide
  have a3 : ¬ Builtin.List.listTooLong (its.toArray.size * k.toNat) = true := by rw [notLongL hlen]; decide
  have f0 : ∀ m : Nat, List.foldl (fun x1 x2 => x1 ++ x2) #[] (List.replicate m its.toArray) = (List.replicate m its).flatten.toArray := fun m => by
    have g := foldl_rep its m []
    rwa [List.nil_append] at g
  have hnew : List.foldl (fun x1 x2 => x1 ++ x2) #[] (List.replicate (if its.toArray.isEmpty = true then 0 else k.toNat) its.toArray) = (List.replicate k.toNat its).flatten.toArray := by
    rw [f0]
    cases its with
    | nil => simp
    | cons a r' => rw [if_neg (by simp)]
  refine wpAny_binaryOp_repeat_ref (T := "list") (U := "int") (by decide) ⟨_, e, rfl⟩ (fun s' => typeIs_int s' k t) noFill_list_mul F.fills_int_mul F.slot_int_rmul repeat_list F.slot_int_index.lookup ?_
  refine call_meets F.slot_int_rmul (typeIs_int s k t) F.entry_int_rmul (F.args_int_rmul_2 _ _) (int___rmul___int_list k t l its.toArray n) ⟨e, rfl, ⟨_, e, rfl⟩, ?_⟩
  refine call_meets F.slot_list_mul ⟨_, e, rfl⟩ F.entry_list_mul (F.args_list_mul_2 _ _) (AutoListH.list___mul___list_int_3 l its.toArray n k t a2 a1 a3) ⟨e, ?_⟩
  rw [hnew]
  exact ⟨.ref _, _, I.lnew (t' := s.toks) (r.rep k.toNat) (by rw [PyProof.Rows.lm_len_rep_flat, Nat.mul_comm]; exact hz), rfl, q _ I.fresh⟩
theorem sd_lstRep : OpSound K lstRep (rRepR K) := by
  intro G H x y v u z Q e hx hy g r
  unfold lstRep at g
  split at g
  · split at g
    · rename_i hl
      cases g
      cases hx with
      | lst a ra =>
        refine ⟨_, _, _, rfl, hy.int_inv, a, by omega, by omega, by rw [ra.length]; exact line_of hl.2.2, fun p hp => r p _ hp (.lst (ra.rep _))⟩
    · cases g
  · cases g
def gMul : D → D → Option R := orE (iI okMul fun i j => i * j) lstRep
def rMulA (K : PySem.W.Frag) : R2 := fun x y H Q => rI (fun i j => okMul i j = true) (fun i j => .int (i * j)) x y H Q ∨ rRepR K x y H Q
theorem o_mul : OpR X (binaryOp .Mult) (rMulA X.K) := OpR.or op_mulA op_repR
theorem s_mul : OpSound K gMul (rMulA K) := OpSound.or (sd_I fun _ _ h => h) sd_lstRep
def gDiv : D → D → Option R := iI (fun _ j => okDiv j) fun i j => i / j
theorem s_div : OpSound K gDiv (rI CDivW fun i j => .int (i / j)) := sd_I fun _ _ h => okDiv_ok h
def gMod : D → D → Option R := iI (fun _ j => decide (0 < j)) fun i j => i % j
theorem s_mod : OpSound K gMod (rI (fun _ j => 0 < j) fun i j => .int (i % j)) := sd_I fun _ _ h => of_decide_eq_true h
def gPow : D → D → Option R := iI okPow fun i j => i ^ j.toNat
theorem o_pow : OpR X (binaryOp .Pow) (rI (fun i j => okPow i j = true) fun i j => .int (i ^ j.toNat)) := opI fun _ _ _ _ _ _ _ hc q => pow_int (okPow_ok hc).1 (okPow_ok hc).2 q
theorem s_pow : OpSound K gPow (rI (fun i j => okPow i j = true) fun i j => .int (i ^ j.toNat)) := sd_I fun _ _ h => h
def gShl : D → D → Option R := iI okShl shlI
theorem s_shl : OpSound K gShl (rI CShl fun i j => .int (i * 2 ^ j.toNat)) := by
  have e : (fun i j : Int => V.int (i * 2 ^ j.toNat)) = fun i j => V.int (shlI i j) := funext fun i => funext fun j => by rw [shlI_eq]
  rw [e]
  exact sd_I fun _ _ h => okShl_ok h
def gShr : D → D → Option R := iI (fun _ j => decide (0 ≤ j)) shrI
theorem s_shr : OpSound K gShr (rI (fun _ j => 0 ≤ j) fun i j => .int (i / 2 ^ j.toNat)) := by
  have e : (fun i j : Int => V.int (i / 2 ^ j.toNat)) = fun i j => V.int (shrI i j) := funext fun i => funext fun j => by rw [shrI_eq]
  rw [e]
  exact sd_I fun _ _ h => of_decide_eq_true h
def gAnd : D → D → Option R := iI (fun _ _ => true) band
theorem s_and : OpSound K gAnd (rI0 fun i j => .int (Builtin.bitAnd i j)) := sd_I0
def gOr : D → D → Option R := iI (fun _ _ => true) bor
theorem s_or : OpSound K gOr (rI0 fun i j => .int (Builtin.bitOr i j)) := sd_I0
def gXor : D → D → Option R := iI (fun _ _ => true) bxor
theorem s_xor : OpSound K gXor (rI0 fun i j => .int (Builtin.bitXor i j)) := sd_I0
def gNeg : D → Option R
  | .int i => some (.fz (.int (-i)))
  | _ => none
def gInv : D → Option R
  | .int i => some (.fz (.int (bnot i)))
  | _ => none
theorem s_neg : UnSound K gNeg (rU fun i => .int (-i)) := by
  intro G H x v z Q e hx g r
  unfold gNeg at g
  split at g
  · cases g; exact ⟨_, hx.int_inv, r _ .int⟩
  · cases g
def gLt : D → D → Option R := iB fun i j => decide (i < j)
def gLe : D → D → Option R := iB fun i j => decide (i ≤ j)
def gGt : D → D → Option R := iB fun i j => decide (j < i)
def gGe : D → D → Option R := iB fun i j => decide (j ≤ i)
theorem s_lt : OpSound K gLt (rI0 fun i j => .bl (decide (i < j))) := sd_B0
theorem s_le : OpSound K gLe (rI0 fun i j => .bl (decide (i ≤ j))) := sd_B0
theorem s_gt : OpSound K gGt (rI0 fun i j => .bl (decide (j < i))) := sd_B0
theorem s_ge : OpSound K gGe (rI0 fun i j => .bl (decide (j ≤ i))) := sd_B0
mutual
def py : D → Option PyData
  | .non => some .none
  | .bl b => some (.bool b)
  | .int i => some (.int i)
  | .str x => some (.str x)
  | .lst ds => (pys ds).map .list
  | .tup ds => (pys ds).map .tuple
  | _ => none
def pys : List D → Option (List PyData)
  | [] => some []
  | d :: ds => match py d, pys ds with
    | some p, some ps => some (p :: ps)
    | _, _ => none
end
mutual
theorem Rep.dp {H : Hp} : ∀ {d : D} {v : V} {p : PyData}, Rep K H d v → py d = some p → Dp K H v p
  | .non, _, _, h, e => by cases h; cases e; exact .non
  | .bl b, _, _, h, e => by cases h; cases e; exact .bl b
  | .int i, _, _, h, e => by cases h; cases e; exact .int i
  | .str x, _, _, h, e => by cases h; cases e; exact .str x
  | .lst ds, _, p, h, e => by
    cases h with
    | lst a r =>
    unfold py at e
    cases h2 : pys ds with
    | none => rw [h2] at e; cases e
    | some ps => rw [h2] at e; cases e; exact .lst a.sql (Reps.dp r h2)
  | .tup ds, _, p, h, e => by
    cases h with
    | tup a r =>
    unfold py at e
    cases h2 : pys ds with
    | none => rw [h2] at e; cases e
    | some ps => rw [h2] at e; cases e; exact .tup a (Reps.dp r h2)
  | .dct _, _, _, _, e => by simp [py] at e
  | .ins _ _, _, _, _, e => by simp [py] at e
  | .ref _, _, _, _, e => by simp [py] at e
  | .ty _, _, _, _, e => by simp [py] at e
theorem Reps.dp {H : Hp} : ∀ {ds : List D} {vs : List V} {ps : List PyData}, Reps K H ds vs → pys ds = some ps → DpAll K H vs ps
  | [], _, _, h, e => by cases h; cases e; exact .nil
  | d :: ds, _, _, h, e => by
    cases h with
    | cons a r =>
    unfold pys at e
    cases h1 : py d with
    | none => simp only [h1] at e; cases e
    | some p =>
      cases h2 : pys ds with
      | none => simp only [h1, h2] at e; cases e
      | some ps => simp only [h1, h2] at e; cases e; exact .cons (Rep.dp a h1) (Reps.dp r h2)
end
def eqD (x y : D) : Option Bool := match py x, py y with
  | some p, some q => if (SeqAt.shaped p && SeqAt.shaped q) = true then some (PyData.eqv p q) else none
  | _, _ => none
def gEq (x y : D) : Option R := (eqD x y).map fun b => .fz (.bl b)
def gNe (x y : D) : Option R := (eqD x y).map fun b => .fz (.bl (!b))
theorem eqD_inv {G H : Hp} {x y : D} {v u : V} {b : Bool} (e : Ex G H) (hx : Top K G H x v) (hy : Top K G H y u) (h : eqD x y = some b) : ∃ p q, Dp K H v p ∧ Dp K H u q ∧ SeqAt.shaped p = true ∧ SeqAt.shaped q = true ∧ PyData.eqv p q = b := by
  unfold eqD at h
  split at h
  · rename_i p q e1 e2
    split at h
    · rename_i hs
      cases h
      have hs' := Bool.and_eq_true_iff.mp hs
      exact ⟨p, q, (hx.rep e).dp e1, (hy.rep e).dp e2, hs'.1, hs'.2, rfl⟩
    · cases h
  · cases h
theorem s_eq : OpSound K gEq (rEqD K) := by
  intro G H x y v u z Q e hx hy g r
  unfold gEq at g
  cases h : eqD x y with
  | none => rw [h] at g; cases g
  | some b =>
    rw [h] at g; cases g
    obtain ⟨p, q, d1, d2, s1, s2, eb⟩ := eqD_inv e hx hy h
    exact ⟨p, q, d1, d2, s1, s2, by rw [eb]; exact r _ .bl⟩
theorem s_ne : OpSound K gNe (rNeD K) := by
  intro G H x y v u z Q e hx hy g r
  unfold gNe at g
  cases h : eqD x y with
  | none => rw [h] at g; cases g
  | some b =>
    rw [h] at g; cases g
    obtain ⟨p, q, d1, d2, s1, s2, eb⟩ := eqD_inv e hx hy h
    exact ⟨p, q, d1, d2, s1, s2, by rw [eb]; exact r _ .bl⟩
def isNon : D → Bool
  | .non => true
  | _ => false
def gIsN (x y : D) : Option R := if isNon y = true then some (.fz (.bl (isNon x))) else none
def gNotN (x y : D) : Option R := if isNon y = true then some (.fz (.bl (!isNon x))) else none
theorem isNon_top {G H : Hp} {x : D} {v : V} (h : Top K G H x v) : decide (v = .non) = isNon x := by
  cases h <;> simp [isNon]
theorem s_isN : OpSound K gIsN (fun x y H Q => y = .non ∧ Q (.bl (decide (x = .non))) H) := by
  intro G H x y v u z Q e hx hy g r
  unfold gIsN at g
  split at g
  · rename_i hn
    cases g
    rw [isNon_top hx]
    exact ⟨by rw [← isNon_top hy] at hn; exact of_decide_eq_true hn, r _ .bl⟩
  · cases g
theorem s_notN : OpSound K gNotN (fun x y H Q => y = .non ∧ Q (.bl (!decide (x = .non))) H) := by
  intro G H x y v u z Q e hx hy g r
  unfold gNotN at g
  split at g
  · rename_i hn
    cases g
    rw [isNon_top hx]
    exact ⟨by rw [← isNon_top hy] at hn; exact of_decide_eq_true hn, r _ .bl⟩
  · cases g
end
end DN
set_option maxHeartbeats 2000000
namespace DN
open PySem PySem.Spec PyProof.Rows L2
open Evl (Ex)
inductive Fl where
  | nx | rt (r : R) | bk | ct
/-- the slots outside S are as they were -/
def Stay (S : List Nat) (σ σ' : L2.St) : Prop := σ'.length = σ.length ∧ ∀ i, i ∉ S → σ'[i]? = σ[i]?
theorem Stay.refl {S : List Nat} {σ : L2.St} : Stay S σ σ := ⟨rfl, fun _ _ => rfl⟩
theorem Stay.trans {S T : List Nat} {σ σ1 σ2 : L2.St} (a : Stay S σ σ1) (b : Stay T σ1 σ2) : Stay (S ++ T) σ σ2 :=
  ⟨b.1.trans a.1, fun i h => (b.2 i fun z => h (List.mem_append_right _ z)).trans (a.2 i fun z => h (List.mem_append_left _ z))⟩
theorem Stay.mono {S T : List Nat} {σ σ' : L2.St} (a : Stay S σ σ') (h : ∀ i, i ∈ S → i ∈ T) : Stay T σ σ' := ⟨a.1, fun i z => a.2 i fun q => z (h i q)⟩
theorem Stay.one {σ : L2.St} {i : Nat} {v : Option V} : Stay [i] σ (σ.set i v) := ⟨List.length_set, fun j h => by
  rw [List.getElem?_set]
  by_cases e : i = j
  · exact absurd (by rw [e]; exact List.mem_cons_self) h
  · rw [if_neg e]⟩
def PostS (K : PySem.W.Frag) (Wx : WX) (L : Lent) (G B : Hp) (σ : L2.St) (S : List Nat) (o : O Fl) (D : Ends) : Prop := match o with
  | .ok ρ' .nx => ∀ G' B' H' σ', Grow G B G' B' → Stay S σ σ' → OkS K L G' B' H' σ' ρ' → D.nx σ' H'
  | .ok ρ' .bk => ∀ G' B' H' σ', Grow G B G' B' → Stay S σ σ' → OkS K L G' B' H' σ' ρ' → D.bk σ' H'
  | .ok ρ' .ct => ∀ G' B' H' σ', Grow G B G' B' → Stay S σ σ' → OkS K L G' B' H' σ' ρ' → D.ct σ' H'
  | .ok ρ' (.rt r) => ∀ G' B' H' σ' v, Grow G B G' B' → Stay S σ σ' → OkVs K L G' H' σ' ρ' B' [r] [v] → D.rt v H'
  | .er ρ' e => ∀ G' B' H' σ' c d, Grow G B G' B' → Stay S σ σ' → OkS K L G' B' H' σ' ρ' → OkEr K G' e c d → Wx c d σ' H'
  | .un => False
def SemS (X : Cx) (Wx : WX) (S : List Nat) (t : TS) (f : Env → O Fl) : Prop := ∀ L G B H σ ρ D, OkS X.K L G B H σ ρ → PostS X.K Wx L G B σ S (f ρ) D → t D σ H
def DS (X : Cx) (Wx : WX) (S : List Nat) (st : Stmt) (t : TS) (f : Env → O Fl) : Prop := PS X st t ∧ SemS X Wx S t f
def DSs (X : Cx) (Wx : WX) (S : List Nat) (st : List Stmt) (t : TS) (f : Env → O Fl) : Prop := PSs X st t ∧ SemS X Wx S t f
section
variable {K : PySem.W.Frag} {Wx : WX} {L : Lent} {G G' B B' H : Hp} {σ σ' : L2.St} {ρ : Env} {S T : List Nat} {o : O Fl} {D D' : Ends}
theorem PostS.step (p : PostS K Wx L G B σ (S ++ T) o D) (g : Grow G B G' B') (s : Stay S σ σ') : PostS K Wx L G' B' σ' T o D := by
  cases o with
  | un => exact p
  | er ρ e => exact fun G2 B2 H2 σ2 c d g2 s2 => p G2 B2 H2 σ2 c d (g.trans g2) (s.trans s2)
  | ok ρ fl =>
    cases fl with
    | nx => exact fun G2 B2 H2 σ2 g2 s2 => p G2 B2 H2 σ2 (g.trans g2) (s.trans s2)
    | bk => exact fun G2 B2 H2 σ2 g2 s2 => p G2 B2 H2 σ2 (g.trans g2) (s.trans s2)
    | ct => exact fun G2 B2 H2 σ2 g2 s2 => p G2 B2 H2 σ2 (g.trans g2) (s.trans s2)
    | rt r => exact fun G2 B2 H2 σ2 v g2 s2 => p G2 B2 H2 σ2 v (g.trans g2) (s.trans s2)
theorem PostS.grow (p : PostS K Wx L G B σ S o D) (g : Grow G B G' B') : PostS K Wx L G' B' σ S o D := PostS.step (S := []) p g .refl
theorem PostS.sub (p : PostS K Wx L G B σ T o D) (h : ∀ i, i ∈ S → i ∈ T) : PostS K Wx L G B σ S o D := by
  cases o with
  | un => exact p
  | er ρ e => exact fun G2 B2 H2 σ2 c d g2 s2 => p G2 B2 H2 σ2 c d g2 (s2.mono h)
  | ok ρ fl =>
    cases fl with
    | nx => exact fun G2 B2 H2 σ2 g2 s2 => p G2 B2 H2 σ2 g2 (s2.mono h)
    | bk => exact fun G2 B2 H2 σ2 g2 s2 => p G2 B2 H2 σ2 g2 (s2.mono h)
    | ct => exact fun G2 B2 H2 σ2 g2 s2 => p G2 B2 H2 σ2 g2 (s2.mono h)
    | rt r => exact fun G2 B2 H2 σ2 v g2 s2 => p G2 B2 H2 σ2 v g2 (s2.mono h)
/-- an expression, then what its value does -/
theorem PostS.bind {α : Type} {o : O α} {f : Env → α → O Fl} (p : PostS K Wx L G B σ S (o.bind f) D) : Post K Wx L G B σ o fun ρ' a G' B' H' => PostS K Wx L G' B' σ S (f ρ' a) D := by
  cases o with
  | un => exact p
  | ok ρ a => exact fun G2 B2 H2 g => PostS.grow (show PostS K Wx L G B σ S (f ρ a) D from p) g
  | er ρ e => exact fun G2 B2 H2 c d g s => p G2 B2 H2 σ c d g .refl s
end
section
variable {K : PySem.W.Frag} {L : Lent} {G G' B B' H : Hp} {σ σ' : L2.St} {ρ : Env} {i : Nat} {d : D} {v : V} {l : Addr} {ob : HO} {rs : List R} {vs : List V}
theorem OkS.setFz (s : OkS K L G B H σ ρ) (r : Rep K G d v) : OkS K L G B H (σ.set i (some v)) (ρ.set i (.fz d)) := by
  have hl := s.len
  refine ⟨s.gb, s.lb, s.bh, by simp [hl], fun j d' q => ?_, fun j d' q => ?_, fun j d' q => ?_, fun j k dj dk a q1 q2 w1 w2 => ?_⟩
  · rw [List.getElem?_set] at q
    by_cases e : i = j
    · subst e
      rw [if_pos rfl] at q
      split at q
      · rename_i hi
        cases q
        exact ⟨v, by rw [List.getElem?_set, if_pos rfl, if_pos (by omega)], r⟩
      · cases q
    · rw [if_neg e] at q
      rw [List.getElem?_set, if_neg e]
      exact s.fz j d' q
  · rw [List.getElem?_set] at q
    by_cases e : i = j
    · subst e
      rw [if_pos rfl] at q
      split at q <;> cases q
    · rw [if_neg e] at q
      rw [List.getElem?_set, if_neg e]
      exact s.ow j d' q
  · rw [List.getElem?_set] at q
    by_cases e : i = j
    · subst e
      rw [if_pos rfl] at q
      split at q <;> cases q
    · rw [if_neg e] at q
      rw [List.getElem?_set, if_neg e]
      exact s.ln j d' q
  · rw [List.getElem?_set] at q1 q2 w1 w2
    by_cases e : i = j
    · subst e
      rw [if_pos rfl] at q1
      split at q1 <;> cases q1
    · by_cases e2 : i = k
      · subst e2
        rw [if_pos rfl] at q2
        split at q2 <;> cases q2
      · rw [if_neg e] at q1 w1
        rw [if_neg e2] at q2 w2
        exact s.dis j k dj dk a q1 q2 w1 w2
theorem OkS.setOwn (s : OkS K L G (upd B l ob) H σ ρ) (hg : G l = none) (hl : NL L l) (hb : B l = none) (r : RepO K G d ob) : OkS K L G B H (σ.set i (some (.ref l))) (ρ.set i (.own d)) := by
  have hlen := s.len
  have other : ∀ (j : Nat) dj a, ρ[j]? = some (.own dj) → σ[j]? = some (some (.ref a)) → a ≠ l ∧ B a = none := fun j dj a h1 h2 => by
    obtain ⟨m, o, a1, a2, _⟩ := s.ow j dj h1
    rw [h2] at a1; cases a1
    have hm : a ≠ l := fun z => by subst z; rw [upd_same] at a2; cases a2
    rw [upd_ne hm] at a2
    exact ⟨hm, a2⟩
  refine ⟨ex_of_upd s.gb hg, s.lb.of_upd hl, fun b u q => s.bh b u (by rw [upd_ne (ne_of_none q hb)]; exact q), by simp [hlen], fun j d' q => ?_, fun j d' q => ?_, fun j d' q => ?_, fun j k dj dk a q1 q2 w1 w2 => ?_⟩
  · rw [List.getElem?_set] at q
    by_cases e : i = j
    · subst e
      rw [if_pos rfl] at q
      split at q <;> cases q
    · rw [if_neg e] at q
      rw [List.getElem?_set, if_neg e]
      exact s.fz j d' q
  · rw [List.getElem?_set] at q
    by_cases e : i = j
    · subst e
      rw [if_pos rfl] at q
      split at q
      · rename_i hi
        cases q
        exact ⟨l, ob, by rw [List.getElem?_set, if_pos rfl, if_pos (by omega)], hb, s.bh _ _ upd_same, r⟩
      · cases q
    · rw [if_neg e] at q
      rw [List.getElem?_set, if_neg e]
      obtain ⟨m, o, a1, a2, a3, a4⟩ := s.ow j d' q
      exact ⟨m, o, a1, (other j d' m q a1).2, a3, a4⟩
  · rw [List.getElem?_set] at q
    by_cases e : i = j
    · subst e
      rw [if_pos rfl] at q
      split at q <;> cases q
    · rw [if_neg e] at q
      rw [List.getElem?_set, if_neg e]
      exact s.ln j d' q
  · rw [List.getElem?_set] at q1 q2 w1 w2
    by_cases e : i = j
    · by_cases e2 : i = k
      · exact e.symm.trans e2
      · subst e
        rw [if_pos rfl] at w1
        split at w1
        · cases w1
          rw [if_neg e2] at q2 w2
          exact absurd rfl (other k dk l q2 w2).1
        · cases w1
    · by_cases e2 : i = k
      · subst e2
        rw [if_pos rfl] at w2
        split at w2
        · cases w2
          rw [if_neg e] at q1 w1
          exact absurd rfl (other j dj l q1 w1).1
        · cases w2
      · rw [if_neg e] at q1 w1
        rw [if_neg e2] at q2 w2
        exact s.dis j k dj dk a q1 q2 w1 w2
/-- nothing of a slot is at hand -/
def noBor : R → Bool
  | .fz _ => true
  | .own _ => true
  | _ => false
theorem OkVs.setFz (h : OkVs K L G H σ ρ B rs vs) (hn : ∀ r ∈ rs, noBor r = true) (r : Rep K G d v) : OkVs K L G H (σ.set i (some v)) (ρ.set i (.fz d)) B rs vs := by
  induction h with
  | nil s => exact .nil (s.setFz r)
  | fz a _ ih => exact .fz a (ih fun r hr => hn r (List.mem_cons_of_mem _ hr))
  | own g l b a _ ih => exact .own g l b a (ih fun r hr => hn r (List.mem_cons_of_mem _ hr))
  | bor _ _ _ => exact absurd (hn _ List.mem_cons_self) (by simp [noBor])
  | tp _ _ _ _ _ _ => exact absurd (hn _ List.mem_cons_self) (by simp [noBor])
theorem OkVs.setOwn (h : OkVs K L G H σ ρ B rs vs) (hn : ∀ r ∈ rs, noBor r = true) : ∀ {B0 : Hp}, B = upd B0 l ob → G l = none → NL L l → B0 l = none → RepO K G d ob →
    OkVs K L G H (σ.set i (some (.ref l))) (ρ.set i (.own d)) B0 rs vs := by
  induction h with
  | nil s => intro B0 e hg hl hb r; subst e; exact .nil (s.setOwn hg hl hb r)
  | fz a _ ih => intro B0 e hg hl hb r; exact .fz a (ih (fun r hr => hn r (List.mem_cons_of_mem _ hr)) e hg hl hb r)
  | @own B l' o' d' rs vs g0 l0 b a h ih =>
    intro B0 e hg hl hb r
    subst e
    have hne : l' ≠ l := fun z => by subst z; rw [upd_same] at b; cases b
    rw [upd_ne hne] at b
    exact .own g0 l0 b a (ih (fun r hr => hn r (List.mem_cons_of_mem _ hr)) (upd_comm (Ne.symm hne)) hg hl (by rw [upd_ne (Ne.symm hne)]; exact hb) r)
  | bor _ _ _ => exact absurd (hn _ List.mem_cons_self) (by simp [noBor])
  | tp _ _ _ _ _ _ => exact absurd (hn _ List.mem_cons_self) (by simp [noBor])
end
/-- x = r -/
def storeE (i : Nat) : Option (Env × D) → O Unit
  | some (ρ', d) => .ok (ρ'.set i (.fz d)) ()
  | none => .un
/-- x = x keeps what x has -/
def store (i : Nat) (ρ : Env) (r : R) : O Unit := match r with
  | .fz d => .ok (ρ.set i (.fz d)) ()
  | .own d => .ok (ρ.set i (.own d)) ()
  | .bor j => if j = i then .ok ρ () else storeE i (escR ρ (.bor j))
  | .tp qs => storeE i (escR ρ (.tp qs))
section
variable {X : Cx} {K : PySem.W.Frag} {Wx : WX} {L : Lent} {G G' B B' H : Hp} {σ σ' : L2.St} {ρ ρ' : Env} {i : Nat} {d : D} {v : V} {r : R}
theorem set_same {σ : L2.St} (h : σ[i]? = some (some v)) : σ.set i (some v) = σ := by
  apply List.ext_getElem?
  intro j
  rw [List.getElem?_set]
  split
  · rename_i e
    subst e
    split
    · exact h.symm
    · rename_i q
      rw [List.getElem?_eq_none (by omega)] at h
      cases h
  · rfl
theorem OkVs.borI {j : Nat} (k : OkVs K L G H σ ρ B [.bor j] [v]) : σ[j]? = some (some v) ∧ OkS K L G B H σ ρ := by
  cases k with
  | bor h k => exact ⟨h, k.state⟩
theorem store_ok {u : Unit} (k : OkVs K L G H σ ρ B [r] [v]) (e : store i ρ r = .ok ρ' u) : ∃ G' B', Grow G B G' B' ∧ OkS K L G' B' H (σ.set i (some v)) ρ' := by
  cases r with
  | fz d =>
    cases e
    obtain ⟨a, b⟩ := k.fzI
    exact ⟨G, B, .refl, b.state.setFz a⟩
  | own d =>
    cases e
    cases k with
    | own g l b a k => exact ⟨G, B, .refl, k.state.setOwn g l b a⟩
  | bor j =>
    unfold store at e
    simp only at e
    split at e
    · rename_i hj
      subst hj
      cases e
      obtain ⟨h1, h2⟩ := k.borI
      exact ⟨G, B, .refl, by rw [set_same h1]; exact h2⟩
    · cases q : escR ρ (.bor j) with
      | none => rw [q] at e; cases e
      | some x =>
        obtain ⟨ρ1, d⟩ := x
        rw [q] at e
        cases e
        obtain ⟨G', B', g, k'⟩ := k.esc q
        obtain ⟨a, b⟩ := k'.fzI
        exact ⟨G', B', g, b.state.setFz a⟩
  | tp qs =>
    unfold store at e
    simp only at e
    cases q : escR ρ (.tp qs) with
    | none => rw [q] at e; cases e
    | some x =>
      obtain ⟨ρ1, d⟩ := x
      rw [q] at e
      cases e
      obtain ⟨G', B', g, k'⟩ := k.esc q
      obtain ⟨a, b⟩ := k'.fzI
      exact ⟨G', B', g, b.state.setFz a⟩
theorem storeE_noer {e : Er} {x : Option (Env × D)} : storeE i x ≠ .er ρ' e := by
  intro h
  unfold storeE at h
  split at h <;> cases h
theorem store_noer {e : Er} : store i ρ r ≠ .er ρ' e := by
  intro h
  unfold store at h
  split at h
  · cases h
  · cases h
  · split at h
    · cases h
    · exact storeE_noer h
  · exact storeE_noer h
variable {e : Expr} {f h : Env → O R} {pos : Pos} {st : Stmt} {rest : List Stmt} {S T : List Nat} {fs gs : Env → O Fl} {ta : TE} {tta : TT} {t1 t2 : TS} {tg0 : TG}
def dNext : Env → O Fl := fun ρ => .ok ρ .nx
def dSeq (f g : Env → O Fl) : Env → O Fl := fun ρ => (f ρ).bind fun ρ fl => match fl with
  | .nx => g ρ
  | fl => .ok ρ fl
theorem sem_seq {t u : TS} (h1 : SemS X Wx S t fs) (h2 : SemS X Wx T u gs) : SemS X Wx (S ++ T) (tSeq t u) (dSeq fs gs) := fun L G B H σ ρ D s p => by
  refine h1 L G B H σ ρ _ s ?_
  unfold dSeq at p
  cases ef : fs ρ with
  | un => rw [ef] at p; exact p
  | er ρ1 e1 => rw [ef] at p; exact PostS.sub (T := S ++ T) (o := O.er ρ1 e1) p fun i hi => List.mem_append_left _ hi
  | ok ρ1 fl =>
    rw [ef] at p
    cases fl with
    | nx => exact fun G' B' H' σ' g st s' => h2 L G' B' H' σ' ρ1 D s' (PostS.step p g st)
    | bk => exact fun G2 B2 H2 σ2 g2 s2 => p G2 B2 H2 σ2 g2 (s2.mono fun i hi => List.mem_append_left _ hi)
    | ct => exact fun G2 B2 H2 σ2 g2 s2 => p G2 B2 H2 σ2 g2 (s2.mono fun i hi => List.mem_append_left _ hi)
    | rt r => exact fun G2 B2 H2 σ2 v g2 s2 => p G2 B2 H2 σ2 v g2 (s2.mono fun i hi => List.mem_append_left _ hi)
theorem dss_nil : DSs X Wx [] [] tNext dNext := ⟨pss_nil, fun L G B H σ ρ D s p => p G B H σ .refl .refl s⟩
theorem dss_cons (h1 : DS X Wx S st t1 fs) (h2 : DSs X Wx T rest t2 gs) : DSs X Wx (S ++ T) (st :: rest) (tSeq t1 t2) (dSeq fs gs) :=
  ⟨pss_cons h1.1 h2.1, sem_seq h1.2 h2.2⟩
theorem dss_one (h1 : DS X Wx S st t1 fs) : DSs X Wx S [st] t1 fs := ⟨pss_one h1.1, h1.2⟩
def dRet (f : Env → O R) : Env → O Fl := fun ρ => (f ρ).bind fun ρ r => .ok ρ (.rt r)
theorem ds_ret (he : DE X Wx e ta f) : DS X Wx [] (.Return (some e) pos) (tRet ta) (dRet f) := by
  obtain ⟨pt, se⟩ := he
  exact ⟨ps_ret pt, fun L G B H σ ρ D s p => se L G B H σ ρ _ s ((PostS.bind p).imp fun ρ1 r1 G1 B1 H1 _ q v k => q G1 B1 H1 σ v .refl .refl k)⟩
def dDrop (f : Env → O R) : Env → O Fl := fun ρ => (f ρ).bind fun ρ _ => .ok ρ .nx
theorem ds_expr (he : DE X Wx e ta f) (hs : swapsWith e none pos.line X.env = pure false := by rfl) : DS X Wx [] (.Expr e pos) (tDrop ta) (dDrop f) := by
  obtain ⟨pt, se⟩ := he
  exact ⟨ps_expr pt hs, fun L G B H σ ρ D s p => se L G B H σ ρ _ s ((PostS.bind p).imp fun ρ1 r1 G1 B1 H1 _ q v k => q G1 B1 H1 σ .refl .refl k.state)⟩
def dIfS (c : Env → O Bool) (f g : Env → O Fl) : Env → O Fl := fun ρ => (c ρ).bind fun ρ b => if b = true then f ρ else g ρ
theorem ds_if {c : Expr} {a b : List Stmt} {ft : Env → O Bool} (hc : DT X Wx c tta ft) (ha : DSs X Wx S a t1 fs) (hb : DSs X Wx T b t2 gs) : DS X Wx (S ++ T) (.If c a b pos) (tIfS tta t1 t2) (dIfS ft fs gs) := by
  obtain ⟨pt, sc⟩ := hc
  obtain ⟨pu, sa⟩ := ha
  obtain ⟨pw, sb⟩ := hb
  refine ⟨ps_if pt pu pw, fun L G B H σ ρ D s p => sc L G B H σ ρ _ s ((PostS.bind p).imp fun ρ1 b1 G1 B1 H1 _ q s1 => ?_)⟩
  cases b1 with
  | true => exact sa L G1 B1 H1 σ ρ1 D s1 (PostS.sub (T := S ++ T) q fun i hi => List.mem_append_left _ hi)
  | false => exact sb L G1 B1 H1 σ ρ1 D s1 (PostS.sub (T := S ++ T) q fun i hi => List.mem_append_right _ hi)
/-- a target takes what is at hand -/
def SemG (X : Cx) (S : List Nat) (t : TG) (g : Env → R → O Unit) : Prop := ∀ L G B H σ ρ r v (Q : L2.St → Hp → Prop) ρ' u, OkVs X.K L G H σ ρ B [r] [v] → g ρ r = .ok ρ' u →
  (∀ G' B' σ', Grow G B G' B' → Stay S σ σ' → OkS X.K L G' B' H σ' ρ' → Q σ' H) → t v σ H Q
def DG (X : Cx) (S : List Nat) (tg : Expr) (t : TG) (g : Env → R → O Unit) : Prop := PG X tg t ∧ SemG X S t g ∧ ∀ ρ r ρ' e, g ρ r ≠ .er ρ' e
theorem dg_name {x : Str} (i : Nat) (hN : X.N.Nodup) (hi : X.N[i]? = some x := by rfl) (hx : Loc X.env.scope x := by first | exact Or.inl rfl | exact Or.inr rfl)
    (hf : X.fn x = true ∨ X.env.scope.names.lookup x = some .local := by first | exact .inl rfl | exact .inr rfl) : DG X [i] (.Name x pos) (gName i) (store i) := by
  refine ⟨pg_name hN hi hx hf, fun L G B H σ ρ r v Q ρ' u k e q => ?_, fun ρ r ρ' e => store_noer⟩
  obtain ⟨G', B', g, s⟩ := store_ok (i := i) k e
  exact q G' B' _ g Stay.one s
def dAsg (g : Env → R → O Unit) (f : Env → O R) : Env → O Fl := fun ρ => (f ρ).bind fun ρ r => (g ρ r).bind fun ρ _ => .ok ρ .nx
theorem asg_end {g : Env → R → O Unit} {t : TG} {D : Ends} (hg : SemG X S t g) (hn : ∀ ρ r ρ' e, g ρ r ≠ .er ρ' e) (k : OkVs X.K L G H σ ρ B [r] [v])
    (p : PostS X.K Wx L G B σ S ((g ρ r).bind fun ρ _ => .ok ρ .nx) D) : t v σ H D.nx := by
  cases e : g ρ r with
  | un => rw [e] at p; exact p.elim
  | er ρ1 e1 => exact (hn _ _ _ _ e).elim
  | ok ρ1 u =>
    rw [e] at p
    exact hg L G B H σ ρ r v _ ρ1 u k e fun G' B' σ' gr st s => p G' B' H σ' gr st s
theorem ds_asg {tg : Expr} {g : Env → R → O Unit} (hg : DG X S tg tg0 g) (he : DE X Wx e ta f) (hs : swapsWithSole [tg] e pos.line X.env = pure false := by rfl) (hw : swappedStores [tg] e X.env = pure none := by rfl)
    (h1 : (assignEach [tg] X.env).map (·.2) = [assign tg X.env] := by rfl) : DS X Wx S (.Assign [tg] e pos) (tAsg ta tg0) (dAsg g f) := by
  obtain ⟨pt, se⟩ := he
  obtain ⟨pu, sg, hn⟩ := hg
  exact ⟨ps_asg pt pu hs hw h1, fun L G B H σ ρ D s p => se L G B H σ ρ _ s ((PostS.bind p).imp fun ρ1 r1 G1 B1 H1 _ q v k => asg_end sg hn k q)⟩
theorem ds_set {x : Str} {pos' : Pos} (i : Nat) (he : DE X Wx e ta f) (hN : X.N.Nodup) (hi : X.N[i]? = some x := by rfl) (hx : Loc X.env.scope x := by first | exact Or.inl rfl | exact Or.inr rfl)
    (hs : swapsWith e (some (.Name x pos')) pos.line X.env = pure false := by rfl) (hf : X.fn x = true ∨ X.env.scope.names.lookup x = some .local := by first | exact .inl rfl | exact .inr rfl) :
    DS X Wx [i] (.Assign [.Name x pos'] e pos) (tAsg ta (gName i)) (dAsg (store i) f) := by
  obtain ⟨pt, se⟩ := he
  obtain ⟨pu, sg, hn⟩ := dg_name (pos := pos') i hN hi hx hf
  refine ⟨ps_set hN hi hx pt hs hf, fun L G B H σ ρ D s p => se L G B H σ ρ _ s ((PostS.bind p).imp fun ρ1 r1 G1 B1 H1 _ q v k => ?_)⟩
  cases e : store i ρ1 r1 with
  | un => rw [e] at q; exact q.elim
  | er ρ1 e1 => exact (store_noer e).elim
  | ok ρ2 u =>
    rw [e] at q
    obtain ⟨G', B', g, s'⟩ := store_ok (i := i) k e
    exact q G' B' H1 _ g Stay.one s'
/-- things of slots and tuples are frozen, the rest stays -/
def settle (ρ : Env) : List R → Option (Env × List R)
  | [] => some (ρ, [])
  | .fz d :: rs => (settle ρ rs).map fun x => (x.1, .fz d :: x.2)
  | .own d :: rs => (settle ρ rs).map fun x => (x.1, .own d :: x.2)
  | r :: rs => match escR ρ r with
    | some (ρ1, d) => (settle ρ1 rs).map fun x => (x.1, .fz d :: x.2)
    | none => none
theorem settle_ok : ∀ {rs rs' : List R} {vs : List V} {G B : Hp} {ρ ρ' : Env}, OkVs K L G H σ ρ B rs vs → settle ρ rs = some (ρ', rs') → ∃ G' B', Grow G B G' B' ∧ OkVs K L G' H σ ρ' B' rs' vs ∧ ∀ r ∈ rs', noBor r = true
  | [], rs', vs, G, B, ρ, ρ', k, e => by
    cases e
    exact ⟨G, B, .refl, k, by simp⟩
  | r :: rs, rs', vs, G, B, ρ, ρ', k, e => by
    have hl := k.length
    cases vs with
    | nil => simp at hl
    | cons v vs =>
      have fzc : ∀ {G1 B1 : Hp} {ρ1 : Env} {d : D}, Grow G B G1 B1 → OkVs K L G1 H σ ρ1 B1 (.fz d :: rs) (v :: vs) → (settle ρ1 rs).map (fun x => (x.1, R.fz d :: x.2)) = some (ρ', rs') →
          ∃ G' B', Grow G B G' B' ∧ OkVs K L G' H σ ρ' B' rs' (v :: vs) ∧ ∀ r ∈ rs', noBor r = true := fun {G1 B1 ρ1 d} g1 k1 e => by
        cases q : settle ρ1 rs with
        | none => rw [q] at e; cases e
        | some x =>
          rw [q] at e; cases e
          obtain ⟨a, b⟩ := k1.fzI
          obtain ⟨G2, B2, g2, k2, n2⟩ := settle_ok b (by rw [q])
          exact ⟨G2, B2, g1.trans g2, .fz (a.mono (g2.gg b.base.1)) k2, fun r hr => by
            rcases List.mem_cons.mp hr with rfl | hr
            · rfl
            · exact n2 r hr⟩
      cases r with
      | fz d => exact fzc .refl k (by simpa only [settle] using e)
      | own d =>
        simp only [settle] at e
        cases q : settle ρ rs with
        | none => rw [q] at e; cases e
        | some x =>
          rw [q] at e; cases e
          cases k with
          | @own _ l o _ _ _ g0 l0 b0 a kk =>
            obtain ⟨G2, B2, g2, k2, n2⟩ := settle_ok kk (by rw [q])
            have hl2 : B2 l = some o := g2.bb l o upd_same
            refine ⟨G2, del B2 l, ⟨ex_del g2.bb b0, fun p u hp => g2.fr p u (by rw [upd_ne (ne_of_none hp b0)]; exact hp)⟩, ?_, fun r hr => ?_⟩
            · refine .own ((g2.fr l o upd_same).trans g0) l0 del_same (a.mono (g2.gg kk.base.1)) ?_
              rw [upd_del hl2]
              exact k2
            · rcases List.mem_cons.mp hr with rfl | hr
              · rfl
              · exact n2 r hr
      | bor j =>
        simp only [settle] at e
        cases q : escR ρ (.bor j) with
        | none => simp only [q] at e; cases e
        | some x =>
          simp only [q] at e
          obtain ⟨G1, B1, g1, k1⟩ := k.esc q
          exact fzc g1 k1 e
      | tp qs =>
        simp only [settle] at e
        cases q : escR ρ (.tp qs) with
        | none => simp only [q] at e; cases e
        | some x =>
          simp only [q] at e
          obtain ⟨G1, B1, g1, k1⟩ := k.esc q
          exact fzc g1 k1 e
def slotOf : R → Sl
  | .fz d => .fz d
  | .own d => .own d
  | _ => .un
def sets (ρ : Env) : List Nat → List R → Env
  | i :: is, r :: rs => sets (ρ.set i (slotOf r)) is rs
  | _, _ => ρ
def setsV (σ : L2.St) : List Nat → List V → L2.St
  | i :: is, v :: vs => setsV (σ.set i (some v)) is vs
  | _, _ => σ
theorem sets_ok : ∀ {is : List Nat} {rs : List R} {vs : List V} {B : Hp} {σ : L2.St} {ρ : Env}, OkVs K L G H σ ρ B rs vs → (∀ r ∈ rs, noBor r = true) → is.length = rs.length → OkS K L G B H (setsV σ is vs) (sets ρ is rs)
  | [], [], vs, B, σ, ρ, k, _, _ => by cases k with | nil s => exact s
  | i :: is, r :: rs, vs, B, σ, ρ, k, n, e => by
    have hl := k.length
    cases vs with
    | nil => simp at hl
    | cons v vs =>
      have n' : ∀ r ∈ rs, noBor r = true := fun r hr => n r (List.mem_cons_of_mem _ hr)
      cases r with
      | fz d =>
        obtain ⟨a, b⟩ := k.fzI
        exact sets_ok (is := is) (b.setFz n' a) n' (by simpa using e)
      | own d =>
        cases k with
        | own g l b a k => exact sets_ok (is := is) (k.setOwn n' rfl g l b a) n' (by simpa using e)
      | bor j => exact absurd (n _ List.mem_cons_self) (by simp [noBor])
      | tp qs => exact absurd (n _ List.mem_cons_self) (by simp [noBor])
theorem setsV_stay : ∀ {is : List Nat} {vs : List V} {σ : L2.St}, Stay is σ (setsV σ is vs)
  | [], _, _ => .refl
  | i :: is, [], σ => .refl
  | i :: is, v :: vs, σ => (Stay.one (i := i)).trans (setsV_stay (is := is) (vs := vs))
/-- the parts of a tuple at hand -/
def partsR (ρ : Env) : R → Option (List R)
  | .tp rs => some rs
  | r => match useR ρ r with
    | some (.tup ds) => some (ds.map .fz)
    | some (.lst ds) => some (ds.map .fz)
    | _ => none
/-- a, b, .. = a tuple or a list of that length -/
def gSeqN (K : PySem.W.Frag) (n : Nat) (t : TGs) : TG := fun v σ H Q => ∃ a xs, v = .ref a ∧ (SqT K H a xs ∨ SqL K H a xs) ∧ xs.length = n ∧ t xs σ H Q
theorem pg_seqN {X : Cx} {pos : Pos} {es : List Expr} {k : Nat} {t : TGs} {n : Nat} (hc : X.calm = true) (h : PGs X es t)
    (hn : (assignEach es X.env).length = n := by rfl) (hst : (assignEach es X.env).findIdx? (·.1) = none := by rfl) : PG X (.Tuple es k pos) (gSeqN X.K n t) :=
  ⟨fun pins s σ H v u Q I r ⟨a, xs, e, hq, hl, q⟩ => hq.elim (fun hq => (pg_tup hc h hn hst).run pins s σ H v u Q I r ⟨a, xs, e, hq, hl, q⟩) fun hq => (pg_lst hc h hn hst).run pins s σ H v u Q I r ⟨a, xs, e, hq, hl, q⟩⟩
def storeN (is : List Nat) (ρ : Env) (r : R) : O Unit := match partsR ρ r with
  | some rs => if rs.length = is.length then (match settle ρ rs with
    | some (ρ', rs') => .ok (sets ρ' is rs') ()
    | none => .un) else .un
  | none => .un
def gNames : List Nat → TGs
  | [] => gNil
  | i :: is => gCons (gName i) (gNames is)
theorem gNames_ok : ∀ {is : List Nat} {vs : List V} {σ : L2.St} {H : Hp} {Q : L2.St → Hp → Prop}, is.length = vs.length → Q (setsV σ is vs) H → gNames is vs σ H Q
  | [], [], _, _, _, _, q => ⟨rfl, q⟩
  | i :: is, v :: vs, σ, H, Q, e, q => ⟨v, vs, rfl, gNames_ok (is := is) (by simpa using e) q⟩
theorem settle_len : ∀ {rs rs' : List R} {ρ ρ' : Env}, settle ρ rs = some (ρ', rs') → rs'.length = rs.length
  | [], _, _, _, e => by cases e; rfl
  | r :: rs, rs', ρ, ρ', e => by
    have c : ∀ {ρ1 : Env} {r' : R}, (settle ρ1 rs).map (fun x => (x.1, r' :: x.2)) = some (ρ', rs') → rs'.length = (r :: rs).length := fun {ρ1 r'} e => by
      cases q : settle ρ1 rs with
      | none => rw [q] at e; cases e
      | some x => rw [q] at e; cases e; simp [settle_len (rs := rs) (rs' := x.2) (ρ := ρ1) (ρ' := x.1) (by rw [q])]
    cases r with
    | fz d => exact c (by simpa only [settle] using e)
    | own d => exact c (by simpa only [settle] using e)
    | bor j =>
      simp only [settle] at e
      cases q : escR ρ (.bor j) with
      | none => simp only [q] at e; cases e
      | some x => simp only [q] at e; exact c e
    | tp qs =>
      simp only [settle] at e
      cases q : escR ρ (.tp qs) with
      | none => simp only [q] at e; cases e
      | some x => simp only [q] at e; exact c e
theorem parts_ok {rs : List R} (k : OkVs K L G H σ ρ B [r] [v]) (e : partsR ρ r = some rs) : ∃ a ws B', v = .ref a ∧ (SqT K H a ws ∨ SqL K H a ws) ∧ Grow G B G B' ∧ Ex B B' ∧ OkVs K L G H σ ρ B' rs ws := by
  have flat : ∀ {ds : List D}, (useR ρ r = some (.tup ds) ∨ useR ρ r = some (.lst ds)) → ∃ a ws B', v = .ref a ∧ (SqT K H a ws ∨ SqL K H a ws) ∧ Grow G B G B' ∧ Ex B B' ∧ OkVs K L G H σ ρ B' (ds.map .fz) ws := fun {ds} u => by
    rcases u with u | u
    · have t := k.use u
      cases t with
      | @tup a ds ws ha rp => exact ⟨a, ws, B, rfl, .inl ha, .refl, Ex.refl _, by simpa using OkVs.ofReps rp (.nil k.state)⟩
    · have t := k.use u
      cases t with
      | @lst a ds ws ha rp => exact ⟨a, ws, B, rfl, .inr ha.sql, .refl, Ex.refl _, by simpa using OkVs.ofReps rp (.nil k.state)⟩
  have both : ∀ {d : D} {o : Option D}, useR ρ r = o → (match o with
      | some (.tup ds) => some (ds.map R.fz)
      | some (.lst ds) => some (ds.map R.fz)
      | _ => none) = some rs → ∃ a ws B', v = .ref a ∧ (SqT K H a ws ∨ SqL K H a ws) ∧ Grow G B G B' ∧ Ex B B' ∧ OkVs K L G H σ ρ B' rs ws := fun {d o} u q => by
    split at q
    · cases q
      exact flat (.inl u)
    · cases q
      exact flat (.inr u)
    · cases q
  cases r with
  | tp qs =>
    cases e
    cases k with
    | @tp _ p _ ws _ _ g l b n k =>
      rw [List.append_nil, List.append_nil] at k
      exact ⟨p, ws, _, rfl, .inl (.of (k.base.2.2 _ _ upd_same)), ⟨Ex.new b, fun _ _ _ => rfl⟩, Ex.new b, k⟩
  | fz d => exact both (d := d) rfl (by simpa only [partsR] using e)
  | own d => exact both (d := d) rfl (by simpa only [partsR] using e)
  | bor j => exact both (d := .non) rfl (by simpa only [partsR] using e)
theorem storeN_ok {is : List Nat} {Q : L2.St → Hp → Prop} {u : Unit} {n : Nat} (hn : is.length = n) (k : OkVs K L G H σ ρ B [r] [v]) (e : storeN is ρ r = .ok ρ' u)
    (q : ∀ G' B' σ', Grow G B G' B' → Stay is σ σ' → OkS K L G' B' H σ' ρ' → Q σ' H) : gSeqN K n (gNames is) v σ H Q := by
  unfold storeN at e
  cases ep : partsR ρ r with
  | none => simp only [ep] at e; cases e
  | some rs =>
    simp only [ep] at e
    split at e
    · rename_i hl
      cases es : settle ρ rs with
      | none => simp only [es] at e; cases e
      | some x =>
        simp only [es] at e
        cases e
        obtain ⟨a, ws, B1, ev, ht, g1, _, k1⟩ := parts_ok k ep
        have lw := k1.length
        obtain ⟨G2, B2, g2, k2, n2⟩ := settle_ok k1 (by rw [es])
        refine ⟨a, ws, ev, ht, by omega, gNames_ok (by omega) (q G2 B2 _ (g1.trans g2) setsV_stay (sets_ok k2 n2 ?_))⟩
        rw [settle_len (rs := rs) (rs' := x.2) (ρ := ρ) (ρ' := x.1) (by rw [es])]
        exact hl.symm
    · cases e
/-- the names of a tuple target -/
def DGN (X : Cx) (es : List Expr) (is : List Nat) : Prop := PGs X es (gNames is)
theorem dgn_nil : DGN X [] [] := pgs_nil
theorem dgn_cons {x : Str} {es : List Expr} {is : List Nat} (i : Nat) (hN : X.N.Nodup) (h2 : DGN X es is) (hi : X.N[i]? = some x := by rfl) (hx : Loc X.env.scope x := by first | exact Or.inl rfl | exact Or.inr rfl)
    (hf : X.fn x = true ∨ X.env.scope.names.lookup x = some .local := by first | exact .inl rfl | exact .inr rfl)
    (hs : (assignEach (.Name x pos :: es) X.env).map (·.2) = assign (.Name x pos) X.env :: (assignEach es X.env).map (·.2) := by rfl) : DGN X (.Name x pos :: es) (i :: is) := pgs_cons (pg_name hN hi hx hf) h2 hs
theorem dg_tup {es : List Expr} {is : List Nat} {k n : Nat} (hc : X.calm = true) (h : DGN X es is) (hl : is.length = n := by rfl)
    (hn : (assignEach es X.env).length = n := by rfl) (hst : (assignEach es X.env).findIdx? (·.1) = none := by rfl) : DG X is (.Tuple es k pos) (gSeqN X.K n (gNames is)) (storeN is) := by
  refine ⟨pg_seqN hc h hn hst, fun L G B H σ ρ r v Q ρ' u kk e q => storeN_ok hl kk e q, fun ρ r ρ' e h => ?_⟩
  unfold storeN at h
  split at h
  · split at h
    · split at h <;> cases h
    · cases h
  · cases h
end
end DN
set_option maxHeartbeats 2000000
namespace DN
open PySem PySem.Spec PyProof.Rows L2
open Evl (Ex)
/-- J gives the items, while what stands over B0 stands -/
def Src (K : PySem.W.Frag) (L : Lent) (J : It) (items : List R) (G0 B0 : Hp) : Prop := ∃ (Gd : Hp → Prop) (Y : Nat → Hp → V → Hp → Prop), Walk J items.length Gd Y ∧ (∀ H, Ex B0 H → Gd H) ∧
  ∀ i r G B H σ ρ x H', items[i]? = some r → Grow G0 B0 G B → OkS K L G B H σ ρ → Y i H x H' → ∃ G' B', Grow G B G' B' ∧ OkVs K L G' H' σ ρ B' [r] [x]
section
variable {K : PySem.W.Frag} {L : Lent} {G B H : Hp} {ds es : List D} {vs us : List V} {a b : Addr}
theorem src_at {J : It} {Gd : Hp → Prop} (w : Walk J vs.length Gd (YAt vs)) (hg : ∀ H, Ex B H → Gd H) (r : Reps K G ds vs) (e : Ex G B) : Src K L J (ds.map .fz) G B := by
  refine ⟨Gd, YAt vs, by rw [List.length_map, ← r.length]; exact w, hg, fun i q G1 B1 H1 σ ρ x H' hi gr s y => ?_⟩
  obtain ⟨rfl, hx⟩ := y
  obtain ⟨d, hd, rd⟩ := r.getV hx
  rw [List.getElem?_map, hd] at hi
  cases hi
  exact ⟨G1, B1, .refl, .fz (rd.mono (gr.gg e)) (.nil s)⟩
theorem src_list (h : ∀ H, Ex B H → SqL K H a vs) (r : Reps K G ds vs) (e : Ex G B) : Src K L (Itl K a) (ds.map .fz) G B := src_at walk_list h r e
theorem src_tup (h : ∀ H, Ex B H → SqT K H a vs) (r : Reps K G ds vs) (e : Ex G B) : Src K L (Itt K a) (ds.map .fz) G B := src_at walk_tup h r e
theorem src_str {z : Str} : Src K L (Its z) (z.cps.toList.map fun c => .fz (.str ⟨#[c]⟩)) G B := by
  refine ⟨_, _, by rw [List.length_map, Array.length_toList]; exact walk_str, fun _ _ => trivial, fun i q G1 B1 H1 σ ρ x H' hi gr s y => ?_⟩
  obtain ⟨rfl, c, hc, rfl⟩ := y
  rw [List.getElem?_map, Array.getElem?_toList, hc] at hi
  cases hi
  exact ⟨G1, B1, .refl, .fz .str (.nil s)⟩
def rngItems (lo c : Int) (n : Nat) : List R := (List.range n).map fun (i : Nat) => .fz (.int (lo + (i : Int) * c))
theorem src_range {lo : Int} {n : Nat} : Src K L (Itr lo n) (rngItems lo 1 n) G B := by
  refine ⟨_, _, by unfold rngItems; rw [List.length_map, List.length_range]; exact walk_range, fun _ _ => trivial, fun i q G1 B1 H1 σ ρ x H' hi gr s y => ?_⟩
  obtain ⟨rfl, rfl⟩ := y
  unfold rngItems at hi
  rw [List.getElem?_map] at hi
  cases e : (List.range n)[i]? with
  | none => rw [e] at hi; cases hi
  | some j =>
    rw [e] at hi; cases hi
    obtain ⟨h1, h2⟩ := List.getElem?_eq_some_iff.mp e
    rw [List.getElem_range] at h2
    subst h2
    show ∃ G' B', Grow G1 B1 G' B' ∧ OkVs K L G' H' σ ρ B' [.fz (.int (lo + (i : Int) * 1))] [.int (lo + (i : Int))]
    rw [Int.mul_one]
    exact ⟨G1, B1, .refl, .fz .int (.nil s)⟩
/-- pairs -/
def pairR (x y : D) : R := .tp [.fz x, .fz y]
theorem src_pair {J : It} {Gd : Hp → Prop} {items : List R} {xs ys : Nat → Option V} (w : Walk J items.length Gd (YPair xs ys)) (hg : ∀ H, Ex B H → Gd H) (e : Ex G B)
    (hi : ∀ i r x y, items[i]? = some r → xs i = some x → ys i = some y → ∃ d1 d2, r = pairR d1 d2 ∧ Rep K G d1 x ∧ Rep K G d2 y) : Src K L J items G B := by
  refine ⟨Gd, _, w, hg, fun i q G1 B1 H1 σ ρ x H' h1 gr s y => ?_⟩
  obtain ⟨T, u, v, rfl, hT, rfl, hu, hv⟩ := y
  obtain ⟨d1, d2, rfl, r1, r2⟩ := hi i q u v h1 hu hv
  have eg := gr.gg e
  exact ⟨G1, B1, .refl, OkS.tup (.fz (r1.mono eg) (.fz (r2.mono eg) (.nil s))) hT⟩
def enumItems (ds : List D) : List R := ds.mapIdx fun i d => pairR (.int (i : Nat)) d
theorem src_enum (h : ∀ H, Ex B H → SqL K H a vs) (r : Reps K G ds vs) (e : Ex G B) : Src K L (Ite K a) (enumItems ds) G B := by
  refine src_pair (xs := fun i => some (.int (i : Nat))) (ys := fun i => vs[i]?) (by unfold enumItems; rw [List.length_mapIdx, ← r.length]; exact walk_enum) h e fun i q x y h1 hx hy => ?_
  obtain ⟨d, hd, rd⟩ := r.getV hy
  unfold enumItems at h1
  rw [List.getElem?_mapIdx, hd] at h1
  cases h1; cases hx
  exact ⟨_, _, rfl, .int, rd⟩
def zipItems (ds es : List D) : List R := (ds.zip es).map fun p => pairR p.1 p.2
theorem src_zip (h : ∀ H, Ex B H → SqL K H a vs ∧ SqL K H b us) (r : Reps K G ds vs) (r2 : Reps K G es us) (e : Ex G B) : Src K L (Itz K a b) (zipItems ds es) G B := by
  refine src_pair (xs := fun i => vs[i]?) (ys := fun i => us[i]?) (by unfold zipItems; rw [List.length_map, List.length_zip, ← r.length, ← r2.length]; exact walk_zip rfl) h e fun i q x y h1 hx hy => ?_
  obtain ⟨d, hd, rd⟩ := r.getV hx
  obtain ⟨d', hd', rd'⟩ := r2.getV hy
  unfold zipItems at h1
  rw [List.getElem?_map, List.getElem?_zip_eq_some (z := (d, d')).mpr ⟨hd, hd'⟩] at h1
  cases h1
  exact ⟨_, _, rfl, rd, rd'⟩
end
def SemI (X : Cx) (Wx : WX) (wi : TI) (f : Env → O (List R)) : Prop := ∀ L G B H σ ρ Z, OkS X.K L G B H σ ρ →
  Post X.K Wx L G B σ (f ρ) (fun ρ' items G' B' H' => OkS X.K L G' B' H' σ ρ' → ∀ J, Src X.K L J items G' B' → Z J H') → wi σ H Z
def DI (X : Cx) (Wx : WX) (tg iter : Expr) (wi : TI) (f : Env → O (List R)) : Prop := PI X tg iter wi ∧ SemI X Wx wi f
section
variable {X : Cx} {Wx : WX} {tg e : Expr} {ta : TE} {tr : TA} {f : Env → O R} {fs : Env → O (List R)} {pos p : Pos}
/-- a list, a tuple, a text -/
def iAny (K : PySem.W.Frag) (te : TE) : TI := fun σ H Z => te σ H fun x H1 => (∃ a xs, x = .ref a ∧ SqL K H1 a xs ∧ Z (Itl K a) H1) ∨ (∃ a xs, x = .ref a ∧ SqT K H1 a xs ∧ Z (Itt K a) H1) ∨ ∃ z, x = .str z ∧ Z (Its z) H1
theorem pi_any (he : PE X e ta) : PI X tg e (iAny X.K ta) := by
  refine ⟨fun pins s σ H Z I h => thn (he.run pins s σ H _ I h) fun v s1 ⟨x, H1, I1, r1, q1⟩ => ?_⟩
  rcases q1 with ⟨a, xs, ex, hq, q⟩ | ⟨a, xs, ex, hq, q⟩ | ⟨z, ex, q⟩
  · subst ex; cases r1
    obtain ⟨its, rv, pl, hz⟩ := I1.list hq
    exact wpAny_pyIter_list pl.isList (pi_one (tk := s1.toks) I1 _ (turn_list a _) ⟨_, Heap.get?_push_size _ rfl, rfl, rfl⟩ q)
  · subst ex; cases r1
    obtain ⟨its, rv, pl, hz⟩ := I1.tuple hq
    exact wpAny_pyIter_tuple (show s1.heap.IsTuple a its.toArray from pl) (pi_one (tk := s1.toks) I1 _ (turn_tuple a _) ⟨_, Heap.get?_push_size _ rfl, rfl, rfl⟩ q)
  · subst ex
    obtain ⟨t, et⟩ := r1
    subst et
    cases ha : z.cps.all (· < 128)
    · exact wpAny_pyIter_wide ha (pi_one (tk := s1.toks) I1 _ (turn_str _ z t "str_iterator" (.inr rfl)) ⟨_, Heap.get?_push_size _ rfl, rfl, rfl⟩ q)
    · exact wpAny_pyIter_ascii ha (pi_one (tk := s1.toks) I1 _ (turn_str _ z t "str_ascii_iterator" (.inl rfl)) ⟨_, Heap.get?_push_size _ rfl, rfl, rfl⟩ q)
def itemsOf : D → Option (List R)
  | .lst ds => some (ds.map .fz)
  | .tup ds => some (ds.map .fz)
  | .str z => some (z.cps.toList.map fun c => .fz (.str ⟨#[c]⟩))
  | _ => none
def dIt (f : Env → O R) : Env → O (List R) := fun ρ => (f ρ).bind fun ρ r => (esc ρ r).bind fun ρ d => match itemsOf d with
  | some rs => .ok ρ rs
  | none => .un
theorem di_any (he : DE X Wx e ta f) : DI X Wx tg e (iAny X.K ta) (dIt f) := by
  obtain ⟨pt, se⟩ := he
  refine ⟨pi_any pt, fun L G B H σ ρ Z s p => se L G B H σ ρ _ s ((Post.bind p).imp fun ρ1 r1 G1 B1 H1 _ q1 v k1 => ?_)⟩
  obtain ⟨ρ2, d, G2, B2, _, g2, k2, q2⟩ := k1.escP (Post.bind q1)
  obtain ⟨rd, k2⟩ := k2.fzI
  have s2 := k2.state
  cases rd <;> simp only [itemsOf] at q2 <;> try exact q2.elim
  · exact .inr (.inr ⟨_, rfl, Post.okD q2 H1 s2 _ src_str⟩)
  · rename_i ha hr _
    exact .inl ⟨_, _, rfl, (ha.mono s2.gh).sql, Post.okD q2 H1 s2 _ (src_list (fun H e => (ha.mono (s2.gb.trans e)).sql) hr s2.gb)⟩
  · rename_i ha hr _
    exact .inr (.inl ⟨_, _, rfl, Evl.ex_t s2.gh ha, Post.okD q2 H1 s2 _ (src_tup (fun H e => Evl.ex_t (s2.gb.trans e) ha) hr s2.gb)⟩)
/-- the int arguments of range -/
def okR (i : Int) : Bool := decide (-1000000 ≤ i ∧ i ≤ 1000000)
def rng1 : List D → Option (Int × Int × Nat)
  | [.int j] => if okR j = true then some (0, 1, j.toNat) else none
  | _ => none
def rng2 : List D → Option (Int × Int × Nat)
  | [.int i, .int j] => if (okR i && okR j) = true then some (i, 1, (j - i).toNat) else none
  | _ => none
def rng3 : List D → Option (Int × Int × Nat)
  | [.int i, .int j, .int c] => if (okR i && okR j && decide (c = -1)) = true then some (i, -1, (i - j).toNat) else none
  | _ => none
def dRng (g : List D → Option (Int × Int × Nat)) (fs : Env → O (List R)) : Env → O (List R) := fun ρ => (fs ρ).bind fun ρ rs => match usesR ρ rs with
  | some ds => (match g ds with
    | some (lo, c, n) => .ok ρ (rngItems lo c n)
    | none => .un)
  | none => .un
theorem okR_of {i : Int} (h : okR i = true) : -(2 ^ 62) ≤ i ∧ i < 2 ^ 62 := by
  have := of_decide_eq_true h
  omega
theorem Tops.ints {K : PySem.W.Frag} {G H : Hp} : ∀ {is : List Int} {vs : List V}, Tops K G H (is.map D.int) vs → vs = is.map V.int
  | [], _, h => by cases h; rfl
  | i :: is, _, h => by
    cases h with
    | cons a b => rw [a.int_inv, Tops.ints b]; rfl
theorem dRng_ok {K : PySem.W.Frag} {L : Lent} {G B H : Hp} {σ : L2.St} {ρ : Env} {rs : List R} {vs : List V} {Z : It → Hp → Prop} {g : List D → Option (Int × Int × Nat)} (k : OkVs K L G H σ ρ B rs vs)
    (q : Post K Wx L G B σ ((match usesR ρ rs with | some ds => (match g ds with | some (lo, c, n) => O.ok ρ (rngItems lo c n) | none => .un) | none => .un) : O (List R)) fun ρ' items G' B' H' => OkS K L G' B' H' σ ρ' → ∀ J, Src K L J items G' B' → Z J H') :
    ∃ ds, Tops K G H ds vs ∧ ∃ lo c n, g ds = some (lo, c, n) ∧ ∀ J, Src K L J (rngItems lo c n) G B → Z J H := by
  cases u : usesR ρ rs with
  | none => simp only [u] at q; exact q.elim
  | some ds =>
    simp only [u] at q
    cases v : g ds with
    | none => simp only [v] at q; exact q.elim
    | some x =>
      obtain ⟨lo, c, n⟩ := x
      simp only [v] at q
      exact ⟨ds, k.uses u, lo, c, n, v, fun J sj => Post.okD q H (k.state k.length) J sj⟩
theorem di_rng1 {a : Expr} (hg : Gl X "range") (hm : X.mg "range" = none) (ha : DA X Wx [a] tr fs) (hs : starEach [a] X.env = [(false, eval a X.env)] := by rfl) : DI X Wx tg (.Call (.Name "range" p) [a] [] pos) (iRng1 tr) (dRng rng1 fs) := by
  obtain ⟨pt, sa⟩ := ha
  refine ⟨pi_range1 hg hm pt hs, fun L G B H σ ρ Z s p => sa L G B H σ ρ _ s ((Post.bind p).imp fun ρ1 r1 G1 B1 H1 _ q1 vs k1 => ?_)⟩
  obtain ⟨ds, tp, lo, c, n, er, hz⟩ := dRng_ok k1 q1
  unfold rng1 at er
  split at er
  · rename_i j
    split at er
    · rename_i hj
      cases er
      have := okR_of hj
      exact ⟨j, Tops.ints (is := [j]) tp, this.1, this.2, hz _ src_range⟩
    · cases er
  · cases er
theorem di_rng2 {a b : Expr} (hg : Gl X "range") (hm : X.mg "range" = none) (ha : DA X Wx [a, b] tr fs) (hs : starEach [a, b] X.env = [(false, eval a X.env), (false, eval b X.env)] := by rfl) (hs2 : starEach [b] X.env = [(false, eval b X.env)] := by rfl) :
    DI X Wx tg (.Call (.Name "range" p) [a, b] [] pos) (iRng2 tr) (dRng rng2 fs) := by
  obtain ⟨pt, sa⟩ := ha
  refine ⟨pi_range2 hg hm pt hs hs2, fun L G B H σ ρ Z s p => sa L G B H σ ρ _ s ((Post.bind p).imp fun ρ1 r1 G1 B1 H1 _ q1 vs k1 => ?_)⟩
  obtain ⟨ds, tp, lo, c, n, er, hz⟩ := dRng_ok k1 q1
  unfold rng2 at er
  split at er
  · rename_i i j
    split at er
    · rename_i hj
      cases er
      have hj := Bool.and_eq_true_iff.mp hj
      have h1 := okR_of hj.1
      have h2 := okR_of hj.2
      exact ⟨_, _, Tops.ints (is := [_, _]) tp, ⟨h1.1, h1.2, h2.1, h2.2⟩, hz _ src_range⟩
    · cases er
  · cases er
def dEnum (fs : Env → O (List R)) : Env → O (List R) := fun ρ => (fs ρ).bind fun ρ rs => (escs ρ rs).bind fun ρ ds => match ds with
  | [.lst es] => .ok ρ (enumItems es)
  | _ => .un
theorem di_enum {a : Expr} {elts : List Expr} {kk : Nat} {tpos : Pos} (hg : Gl X "enumerate") (hm : X.mg "enumerate" = none) (ha : DA X Wx [a] tr fs) (hs : starEach [a] X.env = [(false, eval a X.env)] := by rfl) :
    DI X Wx (.Tuple elts kk tpos) (.Call (.Name "enumerate" p) [a] [] pos) (iEnum X.K tr) (dEnum fs) := by
  obtain ⟨pt, sa⟩ := ha
  refine ⟨pi_enum hg hm pt hs, fun L G B H σ ρ Z s p => sa L G B H σ ρ _ s ((Post.bind p).imp fun ρ1 r1 G1 B1 H1 _ q1 vs k1 => ?_)⟩
  obtain ⟨ρ2, ds, G2, B2, _, g2, s2, rp, q2⟩ := k1.escsP (Post.bind q1)
  split at q2
  · cases rp with
    | cons r1 r2 =>
      cases r2
      cases r1 with
      | lst ha hr => exact ⟨_, _, rfl, (ha.mono s2.gh).sql, Post.okD q2 H1 s2 _ (src_enum (fun H e => (ha.mono (s2.gb.trans e)).sql) hr s2.gb)⟩
  · exact q2.elim
def dZip (fs : Env → O (List R)) : Env → O (List R) := fun ρ => (fs ρ).bind fun ρ rs => (escs ρ rs).bind fun ρ ds => match ds with
  | [.lst es, .lst fs] => .ok ρ (zipItems es fs)
  | _ => .un
theorem di_zip {a b : Expr} {elts : List Expr} {kk : Nat} {tpos : Pos} (hg : Gl X "zip") (hm : X.mg "zip" = none) (ha : DA X Wx [a, b] tr fs) (hs : starEach [a, b] X.env = (false, eval a X.env) :: starEach [b] X.env := by rfl) (hpl : (backTo pos (starEach [b] X.env)).any (·.1) = false := by rfl) :
    DI X Wx (.Tuple elts kk tpos) (.Call (.Name "zip" p) [a, b] [] pos) (iZip X.K tr) (dZip fs) := by
  obtain ⟨pt, sa⟩ := ha
  refine ⟨pi_zip hg hm pt hs hpl, fun L G B H σ ρ Z s p => sa L G B H σ ρ _ s ((Post.bind p).imp fun ρ1 r1 G1 B1 H1 _ q1 vs k1 => ?_)⟩
  obtain ⟨ρ2, ds, G2, B2, _, g2, s2, rp, q2⟩ := k1.escsP (Post.bind q1)
  split at q2
  · cases rp with
    | cons r1 r2 =>
      cases r2 with
      | cons r2 r3 =>
        cases r3
        cases r1 with
        | lst ha hr =>
          cases r2 with
          | lst hb hr2 =>
            exact ⟨_, _, _, _, rfl, (ha.mono s2.gh).sql, (hb.mono s2.gh).sql, Post.okD q2 H1 s2 _ (src_zip (fun H e => ⟨(ha.mono (s2.gb.trans e)).sql, (hb.mono (s2.gb.trans e)).sql⟩) hr hr2 s2.gb)⟩
  · exact q2.elim
def dLoop (g : Env → R → O Unit) (b : Env → O Fl) : List R → Env → O Fl
  | [], ρ => .ok ρ .nx
  | r :: rs, ρ => (g ρ r).bind fun ρ _ => (b ρ).bind fun ρ fl => match fl with
    | .nx => dLoop g b rs ρ
    | .ct => dLoop g b rs ρ
    | .bk => .ok ρ .nx
    | .rt r => .ok ρ (.rt r)
def dFor (fi : Env → O (List R)) (g : Env → R → O Unit) (b : Env → O Fl) : Env → O Fl := fun ρ => (fi ρ).bind fun ρ rs => dLoop g b rs ρ
variable {S T : List Nat} {tg0 : TG} {tb : TS} {g : Env → R → O Unit} {b : Env → O Fl} {body : List Stmt} {iter : Expr} {wi : TI} {fi : Env → O (List R)}
theorem Stay.same {S : List Nat} {σ σ1 σ2 : L2.St} (a : Stay S σ σ1) (b : Stay S σ1 σ2) : Stay S σ σ2 := (a.trans b).mono fun i h => (List.mem_append.mp h).elim id id
theorem PostS.same {K : PySem.W.Frag} {L : Lent} {G B G' B' : Hp} {σ σ' : L2.St} {o : O Fl} {D : Ends} (p : PostS K Wx L G B σ S o D) (g : Grow G B G' B') (s : Stay S σ σ') : PostS K Wx L G' B' σ' S o D :=
  PostS.step (S := S) (p.sub fun i h => (List.mem_append.mp h).elim id id) g s
theorem loop_ok {J : It} {L : Lent} {G B H : Hp} {σ : L2.St} {ρ : Env} {D : Ends} {items : List R} (hg : SemG X S tg0 g) (hn : ∀ ρ r ρ' e, g ρ r ≠ .er ρ' e) (hb : SemS X Wx T tb b)
    (s : OkS X.K L G B H σ ρ) (src : Src X.K L J items G B) (p : PostS X.K Wx L G B σ (S ++ T) (dLoop g b items ρ) D) :
    ∃ W : Nat → Nat → L2.St → Hp → Prop, (∃ m, W 0 m σ H) ∧ ∀ i m σ H, W i m σ H →
      (J.stop i H ∧ D.nx σ H) ∨ (J.go i H ∧ ∃ N : L2.St → Hp → Prop, (∀ σ' H', N σ' H' → ∃ m', m' < m ∧ W (i + 1) m' σ' H') ∧ ∀ x H', J.yld i H x H' → tg0 x σ H' fun σ2 H2 => tb { D with nx := N, ct := N, bk := D.nx } σ2 H2) := by
  obtain ⟨Gd, Y, w, hG, hY⟩ := src
  refine for_it w (fun i σ' H' => ∃ G' B' ρ', Grow G B G' B' ∧ OkS X.K L G' B' H' σ' ρ' ∧ PostS X.K Wx L G' B' σ' (S ++ T) (dLoop g b (items.drop i) ρ') D)
    ⟨G, B, ρ, .refl, s, p⟩ (fun i σ' H' _ ⟨G', B', ρ', gr, s', _⟩ => hG H' (gr.bb.trans s'.bh)) ?_ ?_
  · rintro i x σ1 H1 H1' hi ⟨G1, B1, ρ1, gr, s1, p1⟩ y
    obtain ⟨r, hr⟩ : ∃ r, items[i]? = some r := ⟨items[i], List.getElem?_eq_getElem hi⟩
    obtain ⟨G2, B2, g2, k2⟩ := hY i r G1 B1 H1 σ1 ρ1 x H1' hr gr s1 y
    have ed : items.drop i = r :: items.drop (i + 1) := by
      rw [List.drop_eq_getElem_cons hi]
      rw [List.getElem?_eq_getElem hi] at hr
      cases hr
      rfl
    rw [ed] at p1
    unfold dLoop at p1
    cases eg : g ρ1 r with
    | un => rw [eg] at p1; exact p1.elim
    | er ρ2 e => exact (hn _ _ _ _ eg).elim
    | ok ρ2 u =>
      rw [eg] at p1
      refine hg L G2 B2 H1' σ1 ρ1 r x _ ρ2 u k2 eg fun G3 B3 σ3 g3 st3 s3 => ?_
      have p3 := PostS.same p1 (g2.trans g3) (st3.mono fun i h => List.mem_append_left _ h)
      have gr3 := (gr.trans g2).trans g3
      refine hb L G3 B3 H1' σ3 ρ2 _ s3 ?_
      simp only [O.bind_ok] at p3
      cases eb : b ρ2 with
      | un => rw [eb] at p3; exact p3
      | er ρ4 e => rw [eb] at p3; exact PostS.sub (T := S ++ T) (o := O.er ρ4 e) p3 fun i hi => List.mem_append_right _ hi
      | ok ρ4 fl =>
        rw [eb] at p3
        cases fl with
        | nx => exact fun G4 B4 H4 σ4 g4 st4 s4 => ⟨G4, B4, ρ4, gr3.trans g4, s4, PostS.same p3 g4 (st4.mono fun i h => List.mem_append_right _ h)⟩
        | ct => exact fun G4 B4 H4 σ4 g4 st4 s4 => ⟨G4, B4, ρ4, gr3.trans g4, s4, PostS.same p3 g4 (st4.mono fun i h => List.mem_append_right _ h)⟩
        | bk => exact fun G4 B4 H4 σ4 g4 st4 s4 => p3 G4 B4 H4 σ4 g4 (st4.mono fun i h => List.mem_append_right _ h) s4
        | rt r => exact fun G4 B4 H4 σ4 v g4 st4 k4 => p3 G4 B4 H4 σ4 v g4 (st4.mono fun i h => List.mem_append_right _ h) k4
  · rintro σ1 H1 ⟨G1, B1, ρ1, gr, s1, p1⟩
    rw [List.drop_length] at p1
    exact p1 G1 B1 H1 σ1 .refl .refl s1
theorem ds_for (hp : PassesOwn (model X.prog X.w) X.A X.env X.xe) (hc : X.calm = true) (hi : DI X Wx tg iter wi fi) (hg : DG X S tg tg0 g) (hb : DSs X Wx T body tb b)
    (hs : ∀ x, foldedSetIterable iter X.env x = pure x := by intro _; rfl) : DS X Wx (S ++ T) (.For tg iter body [] pos) (tFor wi tg0 tb) (dFor fi g b) := by
  obtain ⟨pi, si⟩ := hi
  obtain ⟨pg, sg, hn⟩ := hg
  obtain ⟨pb, sb⟩ := hb
  exact ⟨ps_for hp hc pi pg pb hs, fun L G B H σ ρ D s p => si L G B H σ ρ _ s ((PostS.bind p).imp fun ρ1 rs G1 B1 H1 _ q s1 J sj => loop_ok sg hn sb s1 sj q)⟩
/-- a list of one's own is walked: it is only read meanwhile -/
def unlend (j : Nat) (d : D) : O Fl → O Fl
  | .ok ρ fl => .ok (ρ.set j (.own d)) fl
  | .er ρ e => .er (ρ.set j (.own d)) e
  | .un => .un
def Lent.more (L : Lent) (j : Nat) (l : Addr) (o : HO) : Lent := fun i a u => (i = j ∧ a = l ∧ u = o) ∨ (i ≠ j ∧ L i a u)
theorem OkS.lend {K : PySem.W.Frag} {L : Lent} {G B H : Hp} {σ : L2.St} {ρ : Env} {j : Nat} {l : Addr} {o : HO} {d : D} (s : OkS K L G B H σ ρ) (hj : ρ[j]? = some (.own d)) (h1 : σ[j]? = some (some (.ref l))) (h2 : B l = none) (h3 : H l = some o) (h4 : RepO K G d o) :
    OkS K (L.more j l o) G (upd B l o) H σ (ρ.set j (.ln d)) := by
  have hjl : j < ρ.length := (List.getElem?_eq_some_iff.mp hj).1
  refine ⟨s.gb.trans (Ex.new h2), fun i a u q => ?_, fun b u q => ?_, by rw [List.length_set]; exact s.len, fun i d' q => ?_, fun i d' q => ?_, fun i d' q => ?_, fun i k di dk a q1 q2 => ?_⟩
  · rcases q with ⟨_, rfl, rfl⟩ | ⟨_, q⟩
    · exact upd_same
    · exact (Ex.new h2) _ _ (s.lb _ _ _ q)
  · by_cases hb : b = l
    · subst hb; rw [upd_same] at q; cases q; exact h3
    · rw [upd_ne hb] at q; exact s.bh b u q
  · rw [List.getElem?_set] at q
    by_cases e : j = i
    · subst e; rw [if_pos rfl, if_pos hjl] at q; cases q
    · rw [if_neg e] at q; exact s.fz i d' q
  · rw [List.getElem?_set] at q
    by_cases e : j = i
    · subst e; rw [if_pos rfl, if_pos hjl] at q; cases q
    · rw [if_neg e] at q
      obtain ⟨m, u, a, b, c, r⟩ := s.ow i d' q
      have hm : m ≠ l := fun z => by subst z; exact e (s.dis j i d d' m hj q h1 a)
      exact ⟨m, u, a, by rw [upd_ne hm]; exact b, c, r⟩
  · rw [List.getElem?_set] at q
    by_cases e : j = i
    · subst e; rw [if_pos rfl, if_pos hjl] at q; cases q
      exact ⟨_, h1, .inr ⟨l, o, rfl, .inl ⟨rfl, rfl, rfl⟩, h4⟩⟩
    · rw [if_neg e] at q
      obtain ⟨v, a, b⟩ := s.ln i d' q
      exact ⟨v, a, b.imp id fun ⟨m, u, x, y, z⟩ => ⟨m, u, x, .inr ⟨Ne.symm e, y⟩, z⟩⟩
  · rw [List.getElem?_set] at q1 q2
    by_cases e : j = i
    · subst e; rw [if_pos rfl, if_pos hjl] at q1; cases q1
    · by_cases e2 : j = k
      · subst e2; rw [if_pos rfl, if_pos hjl] at q2; cases q2
      · rw [if_neg e] at q1; rw [if_neg e2] at q2
        exact s.dis i k di dk a q1 q2
/-- what was lent comes back -/
theorem OkS.unlend {K : PySem.W.Frag} {L : Lent} {G0 B0 G B H : Hp} {σ : L2.St} {ρ : Env} {j : Nat} {l : Addr} {o : HO} {d : D} (s : OkS K (L.more j l o) G B H σ ρ) (gb : Ex G0 B0) (lb : LB L B0) (b0 : B0 l = none) (gr : Grow G0 (upd B0 l o) G B)
    (h1 : σ[j]? = some (some (.ref l))) (h4 : RepO K G0 d o) : OkS K L G (del B l) H σ (ρ.set j (.own d)) := by
  have hl : B l = some o := gr.bb l o upd_same
  have hg : G l = none := (gr.fr l o upd_same).trans (none_of_ex gb b0)
  have hjl : ∀ x, (ρ.set j x)[j]? = some (.own d) → j < ρ.length := fun x q => by
    rw [List.getElem?_set, if_pos rfl] at q
    split at q
    · assumption
    · cases q
  have other : ∀ (i : Nat) di a, ρ[i]? = some (.own di) → σ[i]? = some (some (.ref a)) → a ≠ l := fun i di a q w z => by
    obtain ⟨m, u, a1, a2, _⟩ := s.ow i di q
    rw [w] at a1; cases a1
    subst z; rw [hl] at a2; cases a2
  refine ⟨fun a u q => ?_, fun i a u q => ?_, fun a u q => ?_, by rw [List.length_set]; exact s.len, fun i d' q => ?_, fun i d' q => ?_, fun i d' q => ?_, fun i k di dk a q1 q2 w1 w2 => ?_⟩
  · rw [del_ne (ne_of_none q hg)]; exact s.gb a u q
  · have h := lb i a u q
    have ha := ne_of_none h b0
    rw [del_ne ha]
    exact gr.bb a u (by rw [upd_ne ha]; exact h)
  · have ha : a ≠ l := fun z => by subst z; rw [del_same] at q; cases q
    rw [del_ne ha] at q; exact s.bh a u q
  · rw [List.getElem?_set] at q
    by_cases e : j = i
    · subst e; rw [if_pos rfl] at q; split at q <;> cases q
    · rw [if_neg e] at q; exact s.fz i d' q
  · rw [List.getElem?_set] at q
    by_cases e : j = i
    · subst e; rw [if_pos rfl] at q
      split at q
      · cases q
        exact ⟨l, o, h1, del_same, s.bh l o hl, h4.mono (gr.gg (gb.trans (Ex.new b0)))⟩
      · cases q
    · rw [if_neg e] at q
      obtain ⟨m, u, a, b, c, r⟩ := s.ow i d' q
      exact ⟨m, u, a, by rw [del_ne (other i d' m q a)]; exact b, c, r⟩
  · rw [List.getElem?_set] at q
    by_cases e : j = i
    · subst e; rw [if_pos rfl] at q; split at q <;> cases q
    · rw [if_neg e] at q
      obtain ⟨v, a, b⟩ := s.ln i d' q
      refine ⟨v, a, b.imp id fun ⟨m, u, x, y, z⟩ => ⟨m, u, x, ?_, z⟩⟩
      rcases y with ⟨z, _⟩ | ⟨_, y⟩
      · exact absurd z.symm e
      · exact y
  · rw [List.getElem?_set] at q1 q2
    by_cases e : j = i
    · by_cases e2 : j = k
      · exact e.symm.trans e2
      · subst e
        rw [if_neg e2] at q2
        rw [h1] at w1; cases w1
        exact absurd rfl (other k dk l q2 w2)
    · by_cases e2 : j = k
      · subst e2
        rw [if_neg e] at q1
        rw [h1] at w2; cases w2
        exact absurd rfl (other i di l q1 w1)
      · rw [if_neg e] at q1; rw [if_neg e2] at q2
        exact s.dis i k di dk a q1 q2 w1 w2
end
end DN
set_option maxHeartbeats 2000000
namespace DN
open PySem PySem.Spec PyProof.Rows L2
open Evl (Ex)
section
variable {X : Cx} {Wx : WX} {tg e : Expr} {ta : TE} {tr : TA} {f : Env → O R} {fs : Env → O (List R)} {pos p : Pos} {S T : List Nat} {tg0 : TG} {tb : TS} {g : Env → R → O Unit} {b : Env → O Fl} {body : List Stmt} {iter : Expr} {wi : TI} {fi : Env → O (List R)}
theorem post_unlend {K : PySem.W.Frag} {L : Lent} {G B : Hp} {σ : L2.St} {j : Nat} {l : Addr} {o : HO} {d : D} {D : Ends} {out : O Fl} (gb : Ex G B) (lb : LB L B) (h1 : σ[j]? = some (some (.ref l))) (h2 : B l = none) (h4 : RepO K G d o) (hj : j ∉ S)
    (p : PostS K Wx L G B σ S (unlend j d out) D) : PostS K Wx (L.more j l o) G (upd B l o) σ S out D := by
  have back : ∀ {G' B' H' : Hp} {σ' : L2.St} {ρ' : Env}, Grow G (upd B l o) G' B' → Stay S σ σ' → OkS K (L.more j l o) G' B' H' σ' ρ' → Grow G B G' (del B' l) ∧ OkS K L G' (del B' l) H' σ' (ρ'.set j (.own d)) := fun {G' B' H' σ' ρ'} gr st s =>
    ⟨⟨ex_del gr.bb h2, fun a u ha => gr.fr a u (by rw [upd_ne (ne_of_none ha h2)]; exact ha)⟩, s.unlend gb lb h2 gr (by rw [st.2 j hj]; exact h1) h4⟩
  cases out with
  | un => exact p
  | er ρ e => exact fun G' B' H' σ' c d' gr st s oe => p G' _ H' σ' c d' (back gr st s).1 st (back gr st s).2 oe
  | ok ρ fl =>
    cases fl with
    | nx => exact fun G' B' H' σ' gr st s => p G' _ H' σ' (back gr st s).1 st (back gr st s).2
    | bk => exact fun G' B' H' σ' gr st s => p G' _ H' σ' (back gr st s).1 st (back gr st s).2
    | ct => exact fun G' B' H' σ' gr st s => p G' _ H' σ' (back gr st s).1 st (back gr st s).2
    | rt r =>
      intro G' B' H' σ' v gr st k
      -- what is handed back is pending: the lent object comes back beneath it
      have hl : B' l = some o := gr.bb l o upd_same
      have key : ∀ {rs : List R} {vs : List V} {B1 : Hp}, OkVs K (L.more j l o) G' H' σ' ρ B1 rs vs → Grow G (upd B l o) G' B1 → OkVs K L G' H' σ' (ρ.set j (.own d)) (del B1 l) rs vs := by
        intro rs vs B1 k
        induction k with
        | nil s => intro gr; exact .nil (back gr st s).2
        | fz a _ ih => intro gr; exact .fz a (ih gr)
        | bor a _ ih => intro gr; exact .bor a (ih gr)
        | @own B1 m u dd rs vs g0 l0 b0 a k ih =>
          intro gr
          have hm : m ≠ l := fun z => by subst z; rw [gr.bb m o upd_same] at b0; cases b0
          have nl : NL L m := fun i o' q => by
            have := lb i m o' q
            have := gr.bb m o' (by rw [upd_ne hm]; exact this)
            rw [b0] at this; cases this
          refine .own g0 nl (by rw [del_ne hm]; exact b0) a ?_
          have e : upd (del B1 l) m u = del (upd B1 m u) l := by
            funext x; unfold upd del
            by_cases h1 : x = m
            · subst h1; simp [hm]
            · by_cases h2 : x = l <;> simp [h1, h2, Ne.symm hm]
          rw [e]
          exact ih ⟨gr.bb.trans (Ex.new b0), gr.fr⟩
        | @tp B1 m qs ws rs vs g0 l0 b0 n k ih =>
          intro gr
          have hm : m ≠ l := fun z => by subst z; rw [gr.bb m o upd_same] at b0; cases b0
          have nl : NL L m := fun i o' q => by
            have := lb i m o' q
            have := gr.bb m o' (by rw [upd_ne hm]; exact this)
            rw [b0] at this; cases this
          refine .tp g0 nl (by rw [del_ne hm]; exact b0) n ?_
          have e : upd (del B1 l) m (.tup ws) = del (upd B1 m (.tup ws)) l := by
            funext x; unfold upd del
            by_cases h1 : x = m
            · subst h1; simp [hm]
            · by_cases h2 : x = l <;> simp [h1, h2, Ne.symm hm]
          rw [e]
          exact ih ⟨gr.bb.trans (Ex.new b0), gr.fr⟩
      exact p G' _ H' σ' v ⟨ex_del gr.bb h2, fun a u ha => gr.fr a u (by rw [upd_ne (ne_of_none ha h2)]; exact ha)⟩ st (key k gr)
def dWhile (c : Env → O Bool) (b : Env → O Fl) : Nat → Env → O Fl
  | 0, _ => .un
  | n + 1, ρ => (c ρ).bind fun ρ k => if k = true then (b ρ).bind fun ρ fl => match fl with
    | .nx => dWhile c b n ρ
    | .ct => dWhile c b n ρ
    | .bk => .ok ρ .nx
    | .rt r => .ok ρ (.rt r) else .ok ρ .nx
theorem ds_while {c : Expr} {tc : TT} {fc : Env → O Bool} (n : Nat) (hp : PassesOwn (model X.prog X.w) X.A X.env X.xe) (hc : DT X Wx c tc fc) (hb : DSs X Wx T body tb b) : DS X Wx T (.While c body [] pos) (tWhile tc tb) (dWhile fc b n) := by
  obtain ⟨pc, sc⟩ := hc
  obtain ⟨pb, sb⟩ := hb
  refine ⟨ps_while hp pc pb, fun L G B H σ ρ D s p => ⟨fun m σ' H' => ∃ G' B' ρ', Grow G B G' B' ∧ OkS X.K L G' B' H' σ' ρ' ∧ PostS X.K Wx L G' B' σ' T (dWhile fc b m ρ') D, ⟨n, G, B, ρ, .refl, s, p⟩, ?_⟩⟩
  rintro m σ1 H1 ⟨G1, B1, ρ1, gr, s1, p1⟩
  cases m with
  | zero => exact p1.elim
  | succ m =>
    unfold dWhile at p1
    refine sc L G1 B1 H1 σ1 ρ1 _ s1 ((PostS.bind p1).imp fun ρ2 k G2 B2 H2 g2 p2 s2 => ?_)
    cases k with
    | false =>
      rw [if_neg Bool.false_ne_true] at p2 ⊢
      exact p2 G2 B2 H2 σ1 .refl .refl s2
    | true =>
      rw [if_pos rfl] at p2 ⊢
      refine ⟨fun σ' H' => ∃ G' B' ρ', Grow G B G' B' ∧ OkS X.K L G' B' H' σ' ρ' ∧ PostS X.K Wx L G' B' σ' T (dWhile fc b m ρ') D, fun σ' H' w => ⟨m, Nat.lt_succ_self _, w⟩, ?_⟩
      refine sb L G2 B2 H2 σ1 ρ2 _ s2 ?_
      have gr2 := gr.trans g2
      cases eb : b ρ2 with
      | un => rw [eb] at p2; exact p2
      | er ρ4 e => rw [eb] at p2; exact p2
      | ok ρ4 fl =>
        rw [eb] at p2
        cases fl with
        | nx => exact fun G4 B4 H4 σ4 g4 st4 s4 => ⟨G4, B4, ρ4, gr2.trans g4, s4, PostS.same p2 g4 st4⟩
        | ct => exact fun G4 B4 H4 σ4 g4 st4 s4 => ⟨G4, B4, ρ4, gr2.trans g4, s4, PostS.same p2 g4 st4⟩
        | bk => exact fun G4 B4 H4 σ4 g4 st4 s4 => p2 G4 B4 H4 σ4 g4 st4 s4
        | rt r => exact fun G4 B4 H4 σ4 v g4 st4 k4 => p2 G4 B4 H4 σ4 v g4 st4 k4
def dPar (is : List Nat) (fs : Env → O (List R)) : Env → O Fl := fun ρ => (fs ρ).bind fun ρ rs => if rs.length = is.length then (match settle ρ rs with
    | some (ρ', rs') => .ok (sets ρ' is rs') .nx
    | none => .un) else .un
theorem par_end {K : PySem.W.Frag} {L : Lent} {G B H : Hp} {σ : L2.St} {ρ : Env} {is : List Nat} {rs : List R} {vs : List V} {D : Ends} (k : OkVs K L G H σ ρ B rs vs)
    (q : PostS K Wx L G B σ is ((if rs.length = is.length then (match settle ρ rs with | some (ρ', rs') => O.ok (sets ρ' is rs') Fl.nx | none => .un) else .un) : O Fl) D) : vs.length = is.length ∧ D.nx (setsV σ is vs) H := by
  split at q
  · rename_i hl
    cases es : settle ρ rs with
    | none => simp only [es] at q; exact q.elim
    | some x =>
      simp only [es] at q
      obtain ⟨G2, B2, g2, k2, n2⟩ := settle_ok k (by rw [es])
      exact ⟨by rw [← k.length]; exact hl, q G2 B2 H _ g2 setsV_stay (sets_ok k2 n2 (by rw [settle_len (rs := rs) (rs' := x.2) (ρ := ρ) (ρ' := x.1) (by rw [es])]; exact hl.symm))⟩
  · exact q.elim
theorem ds_par {i j : Nat} {x y : Str} {a b : Expr} {px py pt : Pos} {kt k2 pt2} (hc : X.calm = true) (hN : X.N.Nodup) (hi : X.N[i]? = some x) (hj : X.N[j]? = some y) (hij : i ≠ j)
    (hx : X.env.scope.names.lookup x = some .local) (hy : X.env.scope.names.lookup y = some .local) (ha : DA X Wx [a, b] tr fs)
    (hw : swappedStores [.Tuple [.Name x px, .Name y py] kt pt] (.Tuple [a, b] k2 pt2) X.env = pure (some [x, y]))
    (hs : swapsWithSole [.Tuple [.Name x px, .Name y py] kt pt] (.Tuple [a, b] k2 pt2) pos.line X.env = pure false := by rfl) :
    DS X Wx [i, j] (.Assign [.Tuple [.Name x px, .Name y py] kt pt] (.Tuple [a, b] k2 pt2) pos) (tPar i j tr) (dPar [i, j] fs) := by
  obtain ⟨pa, sa⟩ := ha
  refine ⟨ps_par hc hN hi hj hij hx hy pa hw hs, fun L G B H σ ρ D s p => sa L G B H σ ρ _ s ((PostS.bind p).imp fun ρ1 rs G1 B1 H1 _ q vs k => ?_)⟩
  obtain ⟨hl, q⟩ := par_end (D := D) k q
  match vs, hl, q with
  | [v, w], _, q => exact ⟨v, w, rfl, q⟩
theorem ds_par3 {i j l : Nat} {x y z : Str} {a b c : Expr} {px py pz pt : Pos} {kt k2 pt2} (hc : X.calm = true) (hN : X.N.Nodup) (hi : X.N[i]? = some x) (hj : X.N[j]? = some y) (hl : X.N[l]? = some z) (hij : i ≠ j) (hil : i ≠ l) (hjl : j ≠ l)
    (hx : X.env.scope.names.lookup x = some .local) (hy : X.env.scope.names.lookup y = some .local) (hz : X.env.scope.names.lookup z = some .local) (ha : DA X Wx [a, b, c] tr fs)
    (hw : swappedStores [.Tuple [.Name x px, .Name y py, .Name z pz] kt pt] (.Tuple [a, b, c] k2 pt2) X.env = pure (some [x, y, z]))
    (hs : swapsWithSole [.Tuple [.Name x px, .Name y py, .Name z pz] kt pt] (.Tuple [a, b, c] k2 pt2) pos.line X.env = pure false := by rfl) :
    DS X Wx [i, j, l] (.Assign [.Tuple [.Name x px, .Name y py, .Name z pz] kt pt] (.Tuple [a, b, c] k2 pt2) pos) (tPar3 i j l tr) (dPar [i, j, l] fs) := by
  obtain ⟨pa, sa⟩ := ha
  refine ⟨ps_par3 hc hN hi hj hl hij hil hjl hx hy hz pa hw hs, fun L G B H σ ρ D s p => sa L G B H σ ρ _ s ((PostS.bind p).imp fun ρ1 rs G1 B1 H1 _ q vs k => ?_)⟩
  obtain ⟨hl, q⟩ := par_end (D := D) k q
  match vs, hl, q with
  | [v, w, u], _, q => exact ⟨v, w, u, rfl, q⟩
def dAug (i : Nat) (gop : D → D → Option R) (f : Env → O R) : Env → O Fl := fun ρ => match getD ρ i with
  | none => .un
  | some _ => (dN f ρ).bind fun ρ r2 => (lift2 gop ρ (.bor i) r2).bind fun ρ r => (store i ρ r).bind fun ρ _ => .ok ρ .nx
theorem ds_aug {x : Str} {px : Pos} {op : Operator} {gop : D → D → Option R} {r : R2} (i : Nat) (hN : X.N.Nodup) (he : DE X Wx e ta f) (ho : OpR X (inplaceOp op) r) (hg : OpSound X.K gop r) (hi : X.N[i]? = some x := by rfl)
    (hx : Loc X.env.scope x := by first | exact Or.inl rfl | exact Or.inr rfl) (hf : X.fn x = true ∨ X.env.scope.names.lookup x = some .local := by first | exact .inl rfl | exact .inr rfl) :
    DS X Wx [i] (.AugAssign (.Name x px) op e pos) (tAug i ta r) (dAug i gop f) := by
  obtain ⟨pe, se⟩ := he
  refine ⟨ps_aug hN hi hx pe ho hf, fun L G B H σ ρ D s p => ?_⟩
  unfold dAug at p
  cases eg : getD ρ i with
  | none => simp only [eg] at p; exact p.elim
  | some d0 =>
    simp only [eg] at p
    obtain ⟨v, hv⟩ := s.has eg
    refine ⟨v, hv, se.n L G B H σ ρ _ s ((PostS.bind p).imp fun ρ1 r1 G1 B1 H1 _ q1 w k1 => ?_)⟩
    have p2 : Post X.K Wx L G1 B1 σ (lift2 gop ρ1 (.bor i) r1) fun ρ' r G' B' H' => ∀ v, OkVs X.K L G' H' σ ρ' B' [r] [v] → D.nx (σ.set i (some v)) H' :=
      (PostS.bind q1).imp fun ρ2 r2 G2 B2 H2 _ q2 w2 k2 => by
        cases es : store i ρ2 r2 with
        | un => rw [es] at q2; exact q2.elim
        | er ρ e => exact (store_noer es).elim
        | ok ρ3 u =>
          rw [es] at q2
          obtain ⟨G', B', g, s'⟩ := store_ok (i := i) k2 es
          exact q2 G' B' H2 _ g Stay.one s'
    exact lift2_ok (W := Wx) (Q := fun z H' => D.nx (σ.set i (some z)) H') hg (.bor hv k1) p2
end
end DN
set_option maxHeartbeats 2000000
namespace DN
open PySem PySem.Spec PyProof.Rows L2
open Evl (Ex)
def wipeE (ρ : Env) : List Nat → Env
  | [] => ρ
  | v :: vs => (wipeE ρ vs).set v .un
def isOwn : Sl → Bool
  | .own _ => true
  | _ => false
def noOwnAt (ρ : Env) (vs : List Nat) : Bool := vs.all fun i => !isOwn (ρ.getD i .un)
def restoreE (ρ0 ρ : Env) : List Nat → Env
  | [] => ρ
  | v :: vs => (restoreE ρ0 ρ vs).set v (ρ0.getD v .un)
theorem wipeE_length (ρ : Env) : ∀ vs : List Nat, (wipeE ρ vs).length = ρ.length
  | [] => rfl
  | v :: vs => by unfold wipeE; rw [List.length_set, wipeE_length ρ vs]
theorem restoreE_length (ρ0 ρ : Env) : ∀ vs : List Nat, (restoreE ρ0 ρ vs).length = ρ.length
  | [] => rfl
  | v :: vs => by unfold restoreE; rw [List.length_set, restoreE_length ρ0 ρ vs]
theorem wipeE_out {ρ : Env} {i : Nat} : ∀ {vs : List Nat}, i ∉ vs → (wipeE ρ vs)[i]? = ρ[i]?
  | [], _ => rfl
  | v :: vs, h => by
    unfold wipeE
    rw [List.getElem?_set_ne (fun e => h (by rw [e]; exact List.mem_cons_self)), wipeE_out fun z => h (List.mem_cons_of_mem _ z)]
theorem wipeE_in {ρ : Env} {i : Nat} {x : Sl} : ∀ {vs : List Nat}, i ∈ vs → (wipeE ρ vs)[i]? = some x → x = .un
  | v :: vs, h, e => by
    unfold wipeE at e
    rw [List.getElem?_set] at e
    by_cases hv : v = i
    · rw [if_pos hv] at e
      split at e
      · cases e; rfl
      · cases e
    · rw [if_neg hv] at e
      rcases List.mem_cons.mp h with z | z
      · exact absurd z.symm hv
      · exact wipeE_in z e
theorem restoreE_out {ρ0 ρ : Env} {i : Nat} : ∀ {vs : List Nat}, i ∉ vs → (restoreE ρ0 ρ vs)[i]? = ρ[i]?
  | [], _ => rfl
  | v :: vs, h => by
    unfold restoreE
    rw [List.getElem?_set_ne (fun e => h (by rw [e]; exact List.mem_cons_self)), restoreE_out fun z => h (List.mem_cons_of_mem _ z)]
theorem restoreE_in {ρ0 ρ : Env} {i : Nat} {x : Sl} : ∀ {vs : List Nat}, i ∈ vs → (restoreE ρ0 ρ vs)[i]? = some x → x = ρ0.getD i .un
  | v :: vs, h, e => by
    unfold restoreE at e
    rw [List.getElem?_set] at e
    by_cases hv : v = i
    · rw [if_pos hv] at e
      split at e
      · cases e; rw [hv]
      · cases e
    · rw [if_neg hv] at e
      rcases List.mem_cons.mp h with z | z
      · exact absurd z.symm hv
      · exact restoreE_in z e
theorem noOwnAt_of {ρ : Env} {vs : List Nat} (h : noOwnAt ρ vs = true) {i : Nat} (hi : i ∈ vs) : isOwn (ρ.getD i .un) = false := by
  have := List.all_eq_true.mp h i hi
  simpa using this
theorem wipe_in {σ : L2.St} {i : Nat} : ∀ {vs : List Nat}, i ∈ vs → i < σ.length → (wipe σ vs)[i]? = some none
  | v :: vs, h, hl => by
    unfold wipe
    by_cases hv : v = i
    · subst hv
      rw [List.getElem?_set_self (by rw [wipe_length]; exact hl)]
    · rw [List.getElem?_set_ne hv]
      rcases List.mem_cons.mp h with z | z
      · exact absurd z.symm hv
      · exact wipe_in z hl
theorem wipe_stay {S vs : List Nat} {σ σ' : L2.St} (h : Stay S (wipe σ vs) σ') (hs : ∀ i, i ∈ S → i ∈ vs) : wipe σ' vs = wipe σ vs := by
  have hl : σ'.length = σ.length := by rw [h.1, wipe_length]
  refine List.ext_getElem? fun i => ?_
  by_cases hi : i ∈ vs
  · by_cases hlt : i < σ.length
    · rw [wipe_in hi hlt, wipe_in hi (by omega)]
    · rw [List.getElem?_eq_none (by rw [wipe_length]; omega), List.getElem?_eq_none (by rw [wipe_length]; omega)]
  · rw [wipe_out hi, h.2 i fun z => hi (hs i z)]
section
variable {K : PySem.W.Frag} {L : Lent} {G B H : Hp} {σ : L2.St} {ρ : Env} {vs : List Nat}
theorem OkS.wiped (s : OkS K L G B H σ ρ) : OkS K L G B H (wipe σ vs) (wipeE ρ vs) := by
  have inn : ∀ {i : Nat} {x : Sl}, x ≠ .un → (wipeE ρ vs)[i]? = some x → i ∉ vs ∧ ρ[i]? = some x ∧ (wipe σ vs)[i]? = σ[i]? := fun {i x} hx e => by
    have hi : i ∉ vs := fun z => hx (wipeE_in z e)
    exact ⟨hi, by rw [← wipeE_out hi]; exact e, wipe_out hi⟩
  refine ⟨s.gb, s.lb, s.bh, by rw [wipe_length, wipeE_length]; exact s.len, fun i d e => ?_, fun i d e => ?_, fun i d e => ?_, fun i j d d' l h1 h2 w1 w2 => ?_⟩
  · obtain ⟨_, a, b⟩ := inn (by simp) e
    rw [b]; exact s.fz i d a
  · obtain ⟨_, a, b⟩ := inn (by simp) e
    rw [b]; exact s.ow i d a
  · obtain ⟨_, a, b⟩ := inn (by simp) e
    rw [b]; exact s.ln i d a
  · obtain ⟨_, a, b⟩ := inn (by simp) h1
    obtain ⟨_, a', b'⟩ := inn (by simp) h2
    rw [b] at w1; rw [b'] at w2
    exact s.dis i j d d' l a a' w1 w2
theorem OkS.restored {G1 B1 H1 : Hp} {ρ0 : Env} (s : OkS K L G B H (wipe σ vs) ρ) (s0 : OkS K L G1 B1 H1 σ ρ0) (g : Ex G1 G) (no : noOwnAt ρ0 vs = true) : OkS K L G B H σ (restoreE ρ0 ρ vs) := by
  have hlen : ρ.length = σ.length := by rw [← s.len, wipe_length]
  have inn : ∀ {i : Nat} {x : Sl}, x ≠ .un → (restoreE ρ0 ρ vs)[i]? = some x → (i ∈ vs ∧ ρ0[i]? = some x) ∨ (i ∉ vs ∧ ρ[i]? = some x ∧ (wipe σ vs)[i]? = σ[i]?) := fun {i x} hx e => by
    by_cases hi : i ∈ vs
    · have e' := restoreE_in hi e
      rw [List.getD_eq_getElem?_getD] at e'
      cases q : ρ0[i]? with
      | none => rw [q] at e'; exact absurd e' hx
      | some y => rw [q] at e'; exact .inl ⟨hi, by rw [e']; rfl⟩
    · exact .inr ⟨hi, by rw [← restoreE_out hi]; exact e, wipe_out hi⟩
  have noown : ∀ {i : Nat} {d : D}, i ∈ vs → ρ0[i]? = some (.own d) → False := fun {i d} hi e => by
    have := noOwnAt_of no hi
    rw [List.getD_eq_getElem?_getD, e] at this
    simp [isOwn] at this
  refine ⟨s.gb, s.lb, s.bh, by rw [restoreE_length]; exact hlen.symm, fun i d e => ?_, fun i d e => ?_, fun i d e => ?_, fun i j d d' l h1 h2 w1 w2 => ?_⟩
  · rcases inn (by simp) e with ⟨_, a⟩ | ⟨_, a, b⟩
    · obtain ⟨v, x, y⟩ := s0.fz i d a
      exact ⟨v, x, y.mono g⟩
    · rw [← b]; exact s.fz i d a
  · rcases inn (by simp) e with ⟨hi, a⟩ | ⟨_, a, b⟩
    · exact (noown hi a).elim
    · rw [← b]; exact s.ow i d a
  · rcases inn (by simp) e with ⟨_, a⟩ | ⟨_, a, b⟩
    · obtain ⟨v, x, y⟩ := s0.ln i d a
      exact ⟨v, x, y.imp (fun z => z.mono g) fun ⟨l, o, p, q, r⟩ => ⟨l, o, p, q, r.mono g⟩⟩
    · rw [← b]; exact s.ln i d a
  · rcases inn (by simp) h1 with ⟨hi, a⟩ | ⟨_, a, b⟩
    · exact (noown hi a).elim
    · rcases inn (by simp) h2 with ⟨hi, a'⟩ | ⟨_, a', b'⟩
      · exact (noown hi a').elim
      · rw [← b] at w1; rw [← b'] at w2
        exact s.dis i j d d' l a a' w1 w2
/-- an object that is held, but not shown, changes -/
theorem OkS.rewrite {D : Addr} {o o' : HO} (s : OkS K L G B H σ ρ) (hB : B D = some o) (hG : G D = none) (hL : NL L D) : OkS K L G (upd B D o') (upd H D o') σ ρ := by
  refine ⟨fun a u q => ?_, fun i a u q => ?_, fun a u q => ?_, s.len, s.fz, fun i d q => ?_, s.ln, s.dis⟩
  · rw [upd_ne (ne_of_none q hG)]; exact s.gb a u q
  · have ha : a ≠ D := fun z => by subst z; exact hL i u q
    rw [upd_ne ha]; exact s.lb i a u q
  · exact ex_upd s.bh a u q
  · obtain ⟨l, u, a, b, c, e⟩ := s.ow i d q
    have hl : l ≠ D := fun z => by subst z; rw [hB] at b; cases b
    exact ⟨l, u, a, by rw [upd_ne hl]; exact b, by rw [upd_ne hl]; exact c, e⟩
end
def lcLoop (g : Env → R → O Unit) (t : Env → O Bool) (f : Env → O R) (vs : List Nat) : List R → Env → List D → Option (Env × List D)
  | [], ρ, acc => some (ρ, acc)
  | r :: rs, ρ, acc => match g ρ r with
    | .ok ρ1 _ => (match t ρ1 with
      | .ok ρ2 true => (match (f ρ2).bind esc with
        | .ok ρ3 d => if acc.length < 100000 then lcLoop g t f vs rs (wipeE ρ3 vs) (acc ++ [d]) else none
        | _ => none)
      | .ok ρ2 false => lcLoop g t f vs rs (wipeE ρ2 vs) acc
      | _ => none)
    | _ => none
def dLc (fi : Env → O (List R)) (g : Env → R → O Unit) (t : Env → O Bool) (f : Env → O R) (vs : List Nat) : Env → O R := fun ρ => (fi ρ).bind fun ρ items => if noOwnAt ρ vs = true then (match lcLoop g t f vs items (wipeE ρ vs) [] with
    | some (ρ', ds) => .ok (restoreE ρ ρ' vs) (.own (.lst ds))
    | none => .un) else .un
abbrev W0 : WX := fun _ _ _ _ => False
section
variable {X : Cx} {Wx : WX} {tg elt iter : Expr} {ifs : List Expr} {S vs : List Nat} {wi : TI} {fi : Env → O (List R)} {g0 : TG} {g : Env → R → O Unit} {tt : TT} {te : TE} {ft : Env → O Bool} {fe : Env → O R} {pos : Pos} {scope : Scope} {own : List (Str × Nat)}
theorem lc_sem (hsub : ∀ i, i ∈ S → i ∈ vs) (si : SemI X Wx wi fi) (sg : SemG X S g0 g) (st : SemT X W0 tt ft) (se : SemE X W0 te fe) : SemE X Wx (tLc wi g0 tt te vs) (dLc fi g ft fe vs) := fun L G B H σ ρ Q s p => by
  refine si L G B H σ ρ _ s ((Post.bind p).imp fun ρ1 items G1 B1 H1 _ q s1 J src DD hD => ?_)
  by_cases no : noOwnAt ρ1 vs = true
  · rw [if_pos no] at q
    cases eL : lcLoop g ft fe vs items (wipeE ρ1 vs) [] with
    | none => simp only [eL] at q; exact q.elim
    | some x =>
      obtain ⟨ρE, dsE⟩ := x
      simp only [eL] at q
      obtain ⟨Gd, Y, w, hG, hY⟩ := src
      have bD : B1 DD = none := none_of_ex s1.bh hD
      have gD : G1 DD = none := none_of_ex s1.gb bD
      have nD : NL L DD := s1.lb.nl bD
      -- what holds ahead of turn i
      refine lc_it w (fun i H' => ∃ G' B' ρ' acc accD, Grow G1 B1 G' B' ∧ B' DD = none ∧ G' DD = none ∧ Reps X.K G' accD acc ∧ OkS X.K L G' (upd B' DD (.lst acc)) H' (wipe σ vs) ρ' ∧ lcLoop g ft fe vs (items.drop i) ρ' accD = some (ρE, dsE))
        ⟨G1, B1, wipeE ρ1 vs, [], [], .refl, bD, gD, .nil, (s1.new hD).wiped, eL⟩ (fun i H' _ ⟨G', B', ρ', acc, accD, gr, b0, _, _, s', _⟩ => hG H' ((gr.bb.trans (Ex.new b0)).trans s'.bh)) ?_ ?_
      · rintro i x H2 H2' hi ⟨G2, B2, ρ2, acc, accD, gr, b0, g0', ra, s2, e2⟩ y
        obtain ⟨r, hr⟩ : ∃ r, items[i]? = some r := ⟨items[i], List.getElem?_eq_getElem hi⟩
        have ed : items.drop i = r :: items.drop (i + 1) := by
          rw [List.drop_eq_getElem_cons hi]
          rw [List.getElem?_eq_getElem hi] at hr
          cases hr
          rfl
        rw [ed] at e2
        unfold lcLoop at e2
        have gr2 : Grow G1 B1 G2 (upd B2 DD (.lst acc)) := gr.trans ⟨Ex.new b0, fun _ _ _ => rfl⟩
        obtain ⟨G3, B3, g3, k3⟩ := hY i r G2 _ H2 (wipe σ vs) ρ2 x H2' hr gr2 s2 y
        cases eg : g ρ2 r with
        | un => simp only [eg] at e2; cases e2
        | er ρ e => simp only [eg] at e2; cases e2
        | ok ρ3 u =>
          simp only [eg] at e2
          refine sg L G3 B3 H2' (wipe σ vs) ρ2 r x _ ρ3 u k3 eg fun G4 B4 σ4 g4 st4 s4 => ⟨wipe_stay st4 hsub, ?_⟩
          have chain : ∀ {G5 B5 : Hp}, Grow G4 B4 G5 B5 → Grow G2 (upd B2 DD (.lst acc)) G5 B5 := fun g5 => (g3.trans g4).trans g5
          -- the list so far stands; what a turn ends with
          have fin : ∀ {G5 B5 H5 : Hp} {ρ5 : Env} {acc' : List V} {accD' : List D}, Grow G4 B4 G5 B5 → OkS X.K L G5 B5 H5 σ4 ρ5 → Reps X.K G5 accD' acc' → lcLoop g ft fe vs (items.drop (i + 1)) (wipeE ρ5 vs) accD' = some (ρE, dsE) →
              ∃ G' B' ρ' acc accD, Grow G1 B1 G' B' ∧ B' DD = none ∧ G' DD = none ∧ Reps X.K G' accD acc ∧ OkS X.K L G' (upd B' DD (.lst acc)) (upd H5 DD (.lst acc')) (wipe σ vs) ρ' ∧ lcLoop g ft fe vs (items.drop (i + 1)) ρ' accD = some (ρE, dsE) := fun {G5 B5 H5 ρ5 acc' accD'} g5 s5 ra5 e5 => by
            have c := chain g5
            have hB5 : B5 DD = some (.lst acc) := c.bb DD _ upd_same
            have hG5 : G5 DD = none := (c.fr DD _ upd_same).trans g0'
            refine ⟨G5, del B5 DD, wipeE ρ5 vs, acc', accD', gr.trans ⟨ex_del c.bb b0, fun a u ha => c.fr a u (by rw [upd_ne (ne_of_none ha b0)]; exact ha)⟩, del_same, hG5, ra5, ?_, e5⟩
            have e : upd (del B5 DD) DD (.lst acc') = upd B5 DD (.lst acc') := by
              funext a
              by_cases h : a = DD
              · subst h; rw [upd_same, upd_same]
              · rw [upd_ne h, upd_ne h, del_ne h]
            rw [e, ← wipe_stay st4 hsub]
            exact (s5.rewrite hB5 hG5 nD).wiped
          cases et : ft ρ3 with
          | un => simp only [et] at e2; cases e2
          | er ρ e => simp only [et] at e2; cases e2
          | ok ρ4 k =>
            simp only [et] at e2
            refine st L G4 B4 H2' σ4 ρ3 _ s4 ?_
            rw [et]
            intro G5 B5 H5 g5 s5
            cases k with
            | true =>
              simp only at e2
              rw [if_pos rfl]
              cases ee : (fe ρ4).bind esc with
              | un => simp only [ee] at e2; cases e2
              | er ρ e => simp only [ee] at e2; cases e2
              | ok ρ6 d =>
                simp only [ee] at e2
                split at e2
                · rename_i hz
                  cases ef : fe ρ4 with
                  | un => rw [ef] at ee; cases ee
                  | er ρ e => rw [ef] at ee; cases ee
                  | ok ρ5 r5 =>
                    rw [ef] at ee
                    refine se L G5 B5 H5 σ4 ρ4 _ s5 ?_
                    rw [ef]
                    intro G6 B6 H6 g6 v k6
                    obtain ⟨ρ7, d7, G7, B7, e7, g7, k7, _⟩ := k6.escP (W := W0) (S := fun _ _ _ _ _ => True) (by rw [show esc ρ5 r5 = .ok ρ6 d from ee]; exact fun _ _ _ _ => trivial)
                    rw [show esc ρ5 r5 = .ok ρ6 d from ee] at e7
                    cases e7
                    obtain ⟨rd, k7⟩ := k7.fzI
                    have s7 := k7.state
                    have g57 := (g5.trans g6).trans g7
                    have c := chain g57
                    refine ⟨acc, s7.bh _ _ (c.bb DD _ upd_same), ?_, ?_⟩
                    · rw [ra.length]
                      exact Nat.lt_of_lt_of_le hz (by rw [sizeLine_eq]; decide)
                    · exact fin g57 s7 ((ra.mono (c.gg s2.gb)).append (.cons rd .nil)) e2
                · cases e2
            | false =>
              simp only at e2
              rw [if_neg Bool.false_ne_true]
              have c := chain g5
              have hB5 : B5 DD = some (.lst acc) := c.bb DD _ upd_same
              have e : upd H5 DD (.lst acc) = H5 := by
                funext a
                by_cases h : a = DD
                · subst h; rw [upd_same, s5.bh _ _ hB5]
                · rw [upd_ne h]
              have f := fin g5 s5 (ra.mono (c.gg s2.gb)) e2
              rw [e] at f
              exact f
      · rintro H2 ⟨G2, B2, ρ2, acc, accD, gr, b0, g0', ra, s2, e2⟩
        rw [List.drop_length] at e2
        unfold lcLoop at e2
        cases e2
        refine q G2 B2 H2 gr _ (.own g0' nD b0 (.lst ra) (.nil ?_))
        exact s2.restored s1 (gr.gg s1.gb) no
  · rw [if_neg no] at q; exact q.elim
def dYes : Env → O Bool := fun ρ => .ok ρ true
/-- a comprehension's block: the same readings over every context of it -/
abbrev Blk (X : Cx) (scope : Scope) (φ : Cx → Prop) : Prop := ∀ (s : Shared) (H : Hp) (C : Addr) (cl : List (Str × Addr)) (fp : List Addr), φ (X.blk s H scope (compEnvC scope cl C X.env) fp)
def DIfs (X : Cx) (Wx : WX) (ifs : List Expr) (t : TT) (f : Env → O Bool) : Prop := PTs X ifs t ∧ SemT X Wx t f
theorem dif_nil : DIfs X Wx [] tYes dYes := ⟨pts_nil, fun L G B H σ ρ Q s p => Post.okD p H s⟩
theorem dif_one {c : Expr} {f : Env → O Bool} (h : DT X Wx c tt f) : DIfs X Wx [c] tt f := ⟨pts_one h.1, h.2⟩
theorem de_lc (hc : X.calm = true) (hN : X.N.Nodup) (hi : DI X Wx tg iter wi fi) (ok : BlkOk X.N X.env.scope scope own) (hg : Blk X scope fun Y => DG Y S tg g0 g) (ht : Blk X scope fun Y => DIfs Y W0 ifs tt ft) (he : Blk X scope fun Y => DE Y W0 elt te fe)
    (hsub : ∀ i, i ∈ S → i ∈ own.map (·.2) := by decide) (hs : ∀ x, foldedSetIterable iter X.env x = pure x := by intro _; rfl) : DE X Wx (.ListComp elt [⟨tg, iter, ifs, 0⟩] scope pos) (tLc wi g0 tt te (own.map (·.2))) (dLc fi g ft fe (own.map (·.2))) := by
  obtain ⟨pi, si⟩ := hi
  refine ⟨pe_lc hc hN pi ok (fun s H C cl fp => (hg s H C cl fp).1) (fun s H C cl fp => (ht s H C cl fp).1) (fun s H C cl fp => (he s H C cl fp).1) hs, ?_⟩
  intro L G B H σ ρ Q s p
  -- the semantics of the parts hang on the written part alone
  have a : ∃ Y : Cx, Y.K = X.K ∧ SemG Y S g0 g ∧ SemT Y W0 tt ft ∧ SemE Y W0 te fe := ⟨X.blk X.s_0 H scope (compEnvC scope [] 0 X.env) [], rfl, (hg _ _ _ _ _).2.1, (ht _ _ _ _ _).2, (he _ _ _ _ _).2⟩
  obtain ⟨Y, eK, sg, st, se⟩ := a
  have sg : SemG X S g0 g := by unfold SemG at sg ⊢; rw [eK] at sg; exact sg
  have st : SemT X W0 tt ft := by unfold SemT at st ⊢; rw [eK] at st; exact st
  have se : SemE X W0 te fe := by unfold SemE at se ⊢; rw [eK] at se; exact se
  exact lc_sem hsub si sg st se L G B H σ ρ Q s p
theorem ds_setLc {i : Nat} {y : Str} {py spos : Pos} (hc : X.calm = true) (hN : X.N.Nodup) (hy : X.N[i]? = some y) (hyl : X.env.scope.names.lookup y = some .local)
    (hsw : swapsWith (.ListComp elt [⟨tg, iter, ifs, 0⟩] scope pos) (some (.Name y py)) spos.line X.env = pure true) (hi : DI X Wx tg iter wi fi) (ok : BlkOk X.N X.env.scope scope own) (hg : Blk X scope fun Y => DG Y S tg g0 g) (ht : Blk X scope fun Y => DIfs Y W0 ifs tt ft) (he : Blk X scope fun Y => DE Y W0 elt te fe)
    (hsub : ∀ i, i ∈ S → i ∈ own.map (·.2) := by decide) (hs : ∀ x, foldedSetIterable iter X.env x = pure x := by intro _; rfl) : DS X Wx [i] (.Assign [.Name y py] (.ListComp elt [⟨tg, iter, ifs, 0⟩] scope pos) spos) (tAsg (tLc wi g0 tt te (own.map (·.2))) (gName i)) (dAsg (store i) (dLc fi g ft fe (own.map (·.2)))) := by
  have e := de_lc (pos := pos) hc hN hi ok hg ht he hsub hs
  refine ⟨ps_setLc hc hN hy hyl hsw hi.1 ok (fun s H C cl fp => (hg s H C cl fp).1) (fun s H C cl fp => (ht s H C cl fp).1) (fun s H C cl fp => (he s H C cl fp).1) hs, fun L G B H σ ρ D s p => e.2 L G B H σ ρ _ s ((PostS.bind p).imp fun ρ1 r1 G1 B1 H1 _ q v k => ?_)⟩
  cases es : store i ρ1 r1 with
  | un => rw [es] at q; exact q.elim
  | er ρ1 e1 => exact (store_noer es).elim
  | ok ρ2 u =>
    rw [es] at q
    obtain ⟨G', B', g, s'⟩ := store_ok (i := i) k es
    exact q G' B' H1 _ g Stay.one s'
end
end DN
set_option maxHeartbeats 2000000
namespace DN
open PySem PySem.Spec PyProof.Rows L2
open Evl (Ex)
/-- a def's promise, where no guard is up -/
structure FnG (P : Program) (w : World) (K : PySem.W.Frag) (mg : Str → Option Value) (base : Heap) (k : Nat) (f : Addr) (fd : FuncData) (ps : List Str) (sp : Sp) : Prop where
  len : ∀ vs H Q E, sp vs H Q E → vs.length = ps.length
  run : ∀ (A : Around) (out : List PySem.Env) (s0 : Shared) (H0 : Hp) (ar : Args) (us : List Value) (vs : List V) (Q : VK) (E : XK), Room k A → A.guards = some [] → Env0 P w K mg base A out s0 H0 → BindsTo s0 fd ar (ps.zip us) →
    Vals vs us → sp vs H0 Q E → codeAny (model P w) A (.call (.ref f) ar) (CR (L2.CX P w) out P w H0 s0 Q E) s0
section
variable {P : Program} {w : World} {K : PySem.W.Frag} {mg : Str → Option Value} {base : Heap}
theorem FnG.mono {j k : Nat} {f : Addr} {fd : FuncData} {ps : List Str} {sp : Sp} (F : FnG P w K mg base j f fd ps sp) (h : j ≤ k) : FnG P w K mg base k f fd ps sp :=
  ⟨F.len, fun A out s0 H0 ar us vs Q E r => F.run A out s0 H0 ar us vs Q E (r.mono h)⟩
end
section
variable {X : Cx} {k : Nat} {f : Addr} {fd : FuncData} {ps : List Str} {sp : Sp} {E : L2.St → XK} {x : Str} {p pos : Pos} {e : Expr} {es : List Expr} {t : TA}
theorem run_G {pins : List (Addr × Obj)} {σ : L2.St} {H : Hp} {s : Shared} {Q : VK} {ar : Args} {us : List Value} {vs : List V} (F : FnG X.prog X.w X.K X.mg X.base k f fd ps sp) (hr : Room k X.A) (hG : X.A.guards = some []) (hb : BindsTo s fd ar (ps.zip us))
    (hx : PassesAt (L2.CX X.prog X.w) X σ (E σ)) (I : L2.Inv X pins σ H s) (r : Vals vs us) (h : sp vs H Q (E σ)) : codeAny (model X.prog X.w) X.A (.call (.ref f) ar) (fun r s' => match r with
      | .ok (.ret u) => EP X pins σ Q u s'
      | .ok _ => False
      | .error e => X.xe e s') s := by
  refine codeAny_mono (F.run X.A X.stack s H ar us vs Q (E σ) hr hG I.env0 hb r h) fun out s1 q => ?_
  cases out with
  | error e => exact hx pins H s e s1 I q
  | ok fl =>
    cases fl with
    | ret u => exact I.after q
    | next => exact q
    | brk => exact q
    | cont => exact q
theorem wp_G {pins : List (Addr × Obj)} {σ : L2.St} {H : Hp} {s : Shared} {Q : VK} {us ds : List Value} {vs : List V} (F : FnG X.prog X.w X.K X.mg X.base k f fd ps sp) (hr : Room k X.A) (hG : X.A.guards = some []) (hb : BindsTo s fd ⟨us, []⟩ (ps.zip ds))
    (hx : PassesAt (L2.CX X.prog X.w) X σ (E σ)) (I : L2.Inv X pins σ H s) (r : Vals vs ds) (h : sp vs H Q (E σ)) : wpAny (model X.prog X.w) X.A (call (.ref f) us) (EP X pins σ Q) X.xe s := by
  refine wpAny_call (codeAny_mono (run_G F hr hG hb hx I r h) fun out s1 q => ?_)
  cases out with
  | error e => exact q
  | ok fl =>
    cases fl with
    | ret u => exact q
    | next => exact q.elim
    | brk => exact q.elim
    | cont => exact q.elim
/-- f(e, ..): the arguments by place, then the defaults -/
def tCallG (sp : Sp) (dv : List V) (E : L2.St → XK) (t : TA) : TE := fun σ H Q => t σ H fun vs H1 => sp (vs ++ dv) H1 Q (E σ)
theorem pe_callG {ds : List Value} {dv : List V} (F : FnG X.prog X.w X.K X.mg X.base k f fd ps sp) (hr : Room k X.A) (hG : X.A.guards = some []) (hg : Gl X x) (hm : X.mg x = some (.ref f)) (hk : PySem.W.keepIn X.K (.ref f) = true) (hb : Binds X.K fd ps ds) (hd : Vals dv ds)
    (hx : ∀ σ, PassesAt (L2.CX X.prog X.w) X σ (E σ)) (ha : PA X (e :: es) t) (hdb : (x == ("__debug__" : Str)) = false := by decide) (he : starEach (e :: es) X.env = (false, eval e X.env) :: starEach es X.env := by rfl)
    (hpl : (backTo pos (starEach es X.env)).any (·.1) = false := by rfl) : PE X (.Call (.Name x p) (e :: es) [] pos) (tCallG sp dv E t) := by
  refine ⟨fun pins s σ H Q I h => wpAny_Call_Name_kw (ld_glob I hg hm (PySem.W.callWith_K (h₀ := X.base) I.ok.mod.kin hk (thn (ha.run pos pins s σ H _ I h) fun us s1 hq => ?_) he hpl) hdb)⟩
  obtain ⟨vs, H1, I1, rv, q⟩ := hq
  have rd := rv.append hd
  exact ⟨I1.kIn, wp_G F hr hG (hb s1 us I1.kIn (by rw [← rd.length]; exact F.len _ _ _ _ q)) (hx σ) I1 rd q⟩
end
end DN
set_option maxHeartbeats 2000000
namespace DN
open PySem PySem.Spec PyProof.Rows L2
open Evl (Ex)
/-- how an argument is handed on: frozen, to be read, to be changed -/
inductive Md where
  | fz | ln | io
  deriving DecidableEq
inductive FO where
  | ok (outs : List D) (r : R) | er (outs : List D) (e : Er) | un
def Arg1 (K : PySem.W.Frag) (G B H : Hp) : Md → D → V → Prop
  | .fz, d, v => Rep K G d v
  | .ln, d, v => Rep K G d v ∨ ∃ l o, v = .ref l ∧ B l = some o ∧ RepO K G d o
  | .io, d, v => ∃ l o, v = .ref l ∧ B l = none ∧ H l = some o ∧ RepO K G d o
structure ArgsOk (K : PySem.W.Frag) (G B H : Hp) (ms : List Md) (ds : List D) (vs : List V) : Prop where
  gb : Ex G B
  bh : Ex B H
  ld : ds.length = ms.length
  lv : vs.length = ms.length
  one : ∀ (i : Nat) m d v, ms[i]? = some m → ds[i]? = some d → vs[i]? = some v → Arg1 K G B H m d v
  dis : ∀ (i j : Nat) l, ms[i]? = some .io → ms[j]? = some .io → vs[i]? = some (.ref l) → vs[j]? = some (.ref l) → i = j
/-- the values of the arguments that are changed -/
def iovs : List Md → List V → List V
  | .io :: ms, v :: vs => v :: iovs ms vs
  | _ :: ms, _ :: vs => iovs ms vs
  | _, _ => []
abbrev noL : Lent := fun _ _ _ => False
def spM (K : PySem.W.Frag) (ms : List Md) (m : List D → FO) : Sp := fun vs H Q E => ∃ G B ds, ArgsOk K G B H ms ds vs ∧ match m ds with
  | .ok outs r => ∀ G' B' H' v, Grow G B G' B' → OkVs K noL G' H' [] [] B' (outs.map .own ++ [r]) (iovs ms vs ++ [v]) → Q v H'
  | .er outs e => ∀ G' B' H' c d, Grow G B G' B' → OkVs K noL G' H' [] [] B' (outs.map .own) (iovs ms vs) → OkEr K G' e c d → E c d H'
  | .un => False
def slotM : Md → D → Sl
  | .fz, d => .fz d
  | .ln, d => .ln d
  | .io, d => .own d
def env0 (ms : List Md) (n : Nat) (ds : List D) : Env := List.zipWith slotM ms ds ++ List.replicate (n - ds.length) .un
section
variable {K : PySem.W.Frag} {L : Lent} {G G' B B' H : Hp} {σ : L2.St} {ρ ρ' : Env} {rs rs' : List R} {vs : List V} {d : D} {v : V} {r : R} {i : Nat} {l : Addr} {o : HO}
theorem start_get {N : List Str} {vs : List V} {i : Nat} (h : i < vs.length) : (L2.start N vs)[i]? = vs[i]?.map some := by
  unfold L2.start
  rw [List.getElem?_append_left (by simpa using h), List.getElem?_map]
theorem ArgsOk.start {ms : List Md} {ds : List D} {N : List Str} (a : ArgsOk K G B H ms ds vs) (hN : vs.length ≤ N.length) :
    ∃ L : Lent, OkS K L G B H (L2.start N vs) (env0 ms N.length ds) := by
  have hget : ∀ {i : Nat} {x : Sl}, x ≠ .un → (env0 ms N.length ds)[i]? = some x → ∃ m d v, ms[i]? = some m ∧ ds[i]? = some d ∧ vs[i]? = some v ∧ x = slotM m d ∧ (L2.start N vs)[i]? = some (some v) := fun {i x} hx e => by
    have hl : (List.zipWith slotM ms ds).length = ms.length := by rw [List.length_zipWith, a.ld, Nat.min_self]
    unfold env0 at e
    by_cases hi : i < ms.length
    · rw [List.getElem?_append_left (by omega), List.getElem?_zipWith] at e
      have h1 : i < ds.length := by rw [a.ld]; exact hi
      have h2 : i < vs.length := by rw [a.lv]; exact hi
      rw [List.getElem?_eq_getElem hi, List.getElem?_eq_getElem h1] at e
      refine ⟨_, _, vs[i], List.getElem?_eq_getElem hi, List.getElem?_eq_getElem h1, List.getElem?_eq_getElem h2, (Option.some.inj e).symm, ?_⟩
      rw [start_get h2, List.getElem?_eq_getElem h2]
      rfl
    · rw [List.getElem?_append_right (by omega), List.getElem?_replicate] at e
      split at e
      · cases e; exact absurd rfl hx
      · cases e
  refine ⟨fun i l o => ms[i]? = some .ln ∧ vs[i]? = some (.ref l) ∧ B l = some o, a.gb, fun i l o q => q.2.2, a.bh, ?_, fun i d e => ?_, fun i d e => ?_, fun i d e => ?_, fun i j d d' l e1 e2 w1 w2 => ?_⟩
  · unfold L2.start env0
    simp only [List.length_append, List.length_map, List.length_replicate, List.length_zipWith, a.ld, a.lv, Nat.min_self]
  · obtain ⟨m, d', v, h1, h2, h3, h4, h5⟩ := hget (by simp) e
    have := a.one i m d' v h1 h2 h3
    cases m <;> simp only [slotM, Sl.fz.injEq, reduceCtorEq] at h4
    subst h4
    exact ⟨v, h5, this⟩
  · obtain ⟨m, d', v, h1, h2, h3, h4, h5⟩ := hget (by simp) e
    have := a.one i m d' v h1 h2 h3
    cases m <;> simp only [slotM, Sl.own.injEq, reduceCtorEq] at h4
    subst h4
    obtain ⟨l, o, ev, b, c, r⟩ := this
    subst ev
    exact ⟨l, o, h5, b, c, r⟩
  · obtain ⟨m, d', v, h1, h2, h3, h4, h5⟩ := hget (by simp) e
    have := a.one i m d' v h1 h2 h3
    cases m <;> simp only [slotM, Sl.ln.injEq, reduceCtorEq] at h4
    subst h4
    refine ⟨v, h5, this.imp id fun ⟨l, o, ev, b, r⟩ => ?_⟩
    subst ev
    exact ⟨l, o, rfl, ⟨h1, h3, b⟩, r⟩
  · obtain ⟨m, d1, v, h1, h2, h3, h4, h5⟩ := hget (by simp) e1
    obtain ⟨m', d2, v', h1', h2', h3', h4', h5'⟩ := hget (by simp) e2
    rw [h5] at w1; cases w1
    rw [h5'] at w2; cases w2
    cases m <;> simp only [slotM, reduceCtorEq] at h4
    cases m' <;> simp only [slotM, reduceCtorEq] at h4'
    exact a.dis i j l h1 h1' h3 h3'
/-- a slot's own object is taken out -/
theorem OkS.takeSlot (s : OkS K L G B H σ ρ) (hi : ρ[i]? = some (.own d)) (h1 : σ[i]? = some (some (.ref l))) (h2 : B l = none) (h3 : H l = some o) : OkS K L G (upd B l o) H σ (ρ.set i .un) := by
  have inn : ∀ {j : Nat} {x : Sl}, x ≠ .un → (ρ.set i .un)[j]? = some x → i ≠ j ∧ ρ[j]? = some x := fun {j x} hx e => by
    rw [List.getElem?_set] at e
    by_cases h : i = j
    · rw [if_pos h] at e
      split at e
      · cases e; exact absurd rfl hx
      · cases e
    · rw [if_neg h] at e
      exact ⟨h, e⟩
  refine ⟨s.gb.trans (Ex.new h2), s.lb.ex (Ex.new h2), fun b u q => ?_, by rw [List.length_set]; exact s.len, fun j d' e => s.fz j d' (inn (by simp) e).2, fun j d' e => ?_, fun j d' e => s.ln j d' (inn (by simp) e).2,
    fun j k dj dk a e1 e2 w1 w2 => s.dis j k dj dk a (inn (by simp) e1).2 (inn (by simp) e2).2 w1 w2⟩
  · by_cases hb : b = l
    · subst hb; rw [upd_same] at q; cases q; exact h3
    · rw [upd_ne hb] at q; exact s.bh b u q
  · obtain ⟨hne, e⟩ := inn (by simp) e
    obtain ⟨m, u, a, b, c, r⟩ := s.ow j d' e
    have hm : m ≠ l := fun z => by subst z; exact hne (s.dis i j d d' m hi e h1 a)
    exact ⟨m, u, a, by rw [upd_ne hm]; exact b, c, r⟩
theorem OkVs.takeSlot (h : OkVs K L G H σ ρ B rs vs) (hi : ρ[i]? = some (.own d)) : ∃ l o, σ[i]? = some (some (.ref l)) ∧ G l = none ∧ NL L l ∧ B l = none ∧ H l = some o ∧ RepO K G d o ∧ OkVs K L G H σ (ρ.set i .un) (upd B l o) rs vs := by
  obtain ⟨l, o, h1, h2, h3, h4⟩ := h.slotOwn hi
  refine ⟨l, o, h1, none_of_ex h.base.1 h2, h.base.2.1.nl h2, h2, h3, h4, ?_⟩
  have key : ∀ {B : Hp} {rs : List R} {vs : List V}, OkVs K L G H σ ρ B rs vs → OkVs K L G H σ (ρ.set i .un) (upd B l o) rs vs := by
    intro B rs vs h
    induction h with
    | nil s =>
      obtain ⟨l', o', a, b, c, _⟩ := s.ow i d hi
      rw [h1] at a; cases a
      exact .nil (s.takeSlot hi h1 b h3)
    | fz a _ ih => exact .fz a ih
    | bor a _ ih => exact .bor a ih
    | @own B m u e rs vs g0 l0 b0 a k ih =>
      obtain ⟨l', o', w1, w2, _⟩ := k.slotOwn hi
      rw [h1] at w1; cases w1
      have hm : l ≠ m := fun z => by subst z; rw [upd_same] at w2; cases w2
      refine .own g0 l0 (by rw [upd_ne (Ne.symm hm)]; exact b0) a ?_
      rw [upd_comm hm]
      exact ih
    | @tp B m qs ws rs vs g0 l0 b0 n k ih =>
      obtain ⟨l', o', w1, w2, _⟩ := k.slotOwn hi
      rw [h1] at w1; cases w1
      have hm : l ≠ m := fun z => by subst z; rw [upd_same] at w2; cases w2
      refine .tp g0 l0 (by rw [upd_ne (Ne.symm hm)]; exact b0) n ?_
      rw [upd_comm hm]
      exact ih
  exact key h
/-- what is handed back out of the slots -/
def closeL (ρ : Env) : List R → Option (Env × List R)
  | [] => some (ρ, [])
  | .fz d :: rs => (closeL ρ rs).map fun x => (x.1, .fz d :: x.2)
  | .own d :: rs => (closeL ρ rs).map fun x => (x.1, .own d :: x.2)
  | .bor i :: rs => match ρ[i]? with
    | some (.own d) => (closeL (ρ.set i .un) rs).map fun x => (x.1, .own d :: x.2)
    | _ => match escR ρ (.bor i) with
      | some (ρ1, d) => (closeL ρ1 rs).map fun x => (x.1, .fz d :: x.2)
      | none => none
  | .tp qs :: rs => match escR ρ (.tp qs) with
    | some (ρ1, d) => (closeL ρ1 rs).map fun x => (x.1, .fz d :: x.2)
    | none => none
def closeR (ρ : Env) : R → Option (Env × R)
  | .tp qs => (closeL ρ qs).map fun x => (x.1, .tp x.2)
  | r => match closeL ρ [r] with
    | some (ρ', [r']) => some (ρ', r')
    | _ => none
theorem closeL_ok : ∀ {rs rs' : List R} {vs : List V} {G B : Hp} {ρ ρ' : Env}, OkVs K L G H σ ρ B rs vs → closeL ρ rs = some (ρ', rs') → ∃ G' B', Grow G B G' B' ∧ OkVs K L G' H σ ρ' B' rs' vs ∧ ∀ r ∈ rs', noBor r = true
  | [], rs', vs, G, B, ρ, ρ', k, e => by
    cases e
    exact ⟨G, B, .refl, k, by simp⟩
  | r :: rs, rs', vs, G, B, ρ, ρ', k, e => by
    have hl := k.length
    cases vs with
    | nil => simp at hl
    | cons v vs =>
      have fzc : ∀ {G1 B1 : Hp} {ρ1 : Env} {d : D}, Grow G B G1 B1 → OkVs K L G1 H σ ρ1 B1 (.fz d :: rs) (v :: vs) → (closeL ρ1 rs).map (fun x => (x.1, R.fz d :: x.2)) = some (ρ', rs') →
          ∃ G' B', Grow G B G' B' ∧ OkVs K L G' H σ ρ' B' rs' (v :: vs) ∧ ∀ r ∈ rs', noBor r = true := fun {G1 B1 ρ1 d} g1 k1 e => by
        cases q : closeL ρ1 rs with
        | none => rw [q] at e; cases e
        | some x =>
          rw [q] at e; cases e
          obtain ⟨a, b⟩ := k1.fzI
          obtain ⟨G2, B2, g2, k2, n2⟩ := closeL_ok b (by rw [q])
          exact ⟨G2, B2, g1.trans g2, .fz (a.mono (g2.gg b.base.1)) k2, fun r hr => by
            rcases List.mem_cons.mp hr with rfl | hr
            · rfl
            · exact n2 r hr⟩
      have owc : ∀ {ρ1 : Env} {d : D}, OkVs K L G H σ ρ1 B (.own d :: rs) (v :: vs) → (closeL ρ1 rs).map (fun x => (x.1, R.own d :: x.2)) = some (ρ', rs') →
          ∃ G' B', Grow G B G' B' ∧ OkVs K L G' H σ ρ' B' rs' (v :: vs) ∧ ∀ r ∈ rs', noBor r = true := fun {ρ1 d} k1 e => by
        cases q : closeL ρ1 rs with
        | none => rw [q] at e; cases e
        | some x =>
          rw [q] at e; cases e
          cases k1 with
          | @own _ l o _ _ _ g0 l0 b0 a kk =>
            obtain ⟨G2, B2, g2, k2, n2⟩ := closeL_ok kk (by rw [q])
            have hl2 : B2 l = some o := g2.bb l o upd_same
            refine ⟨G2, del B2 l, ⟨ex_del g2.bb b0, fun p u hp => g2.fr p u (by rw [upd_ne (ne_of_none hp b0)]; exact hp)⟩, ?_, fun r hr => ?_⟩
            · refine .own ((g2.fr l o upd_same).trans g0) l0 del_same (a.mono (g2.gg kk.base.1)) ?_
              rw [upd_del hl2]
              exact k2
            · rcases List.mem_cons.mp hr with rfl | hr
              · rfl
              · exact n2 r hr
      have esc : ∀ {q : R}, OkVs K L G H σ ρ B (q :: rs) (v :: vs) → (match escR ρ q with | some (ρ1, d) => (closeL ρ1 rs).map (fun x => (x.1, R.fz d :: x.2)) | none => none) = some (ρ', rs') →
          ∃ G' B', Grow G B G' B' ∧ OkVs K L G' H σ ρ' B' rs' (v :: vs) ∧ ∀ r ∈ rs', noBor r = true := fun {q} k e => by
        cases h : escR ρ q with
        | none => simp only [h] at e; cases e
        | some x =>
          simp only [h] at e
          obtain ⟨G1, B1, g1, k1⟩ := k.esc h
          exact fzc g1 k1 e
      cases r with
      | fz d => exact fzc .refl k (by simpa only [closeL] using e)
      | own d => exact owc k (by simpa only [closeL] using e)
      | tp qs => exact esc k (by simpa only [closeL] using e)
      | bor j =>
        unfold closeL at e
        split at e
        · rename_i d hj
          cases k with
          | bor hv k =>
            obtain ⟨l, o, h1, hg, hL, hb, ho, ro, kk⟩ := k.takeSlot hj
            rw [hv] at h1; cases h1
            exact owc (.own hg hL hb ro kk) e
        · exact esc k e
theorem closeR_ok (k : OkVs K L G H σ ρ B [r] [v]) {r' : R} (e : closeR ρ r = some (ρ', r')) : ∃ G' B', Grow G B G' B' ∧ OkVs K L G' H σ ρ' B' [r'] [v] ∧ (∀ qs, r' = .tp qs → ∀ q ∈ qs, noBor q = true) ∧ ∀ i, r' ≠ .bor i := by
  have flat : ∀ {r : R}, (∀ qs, r ≠ .tp qs) → OkVs K L G H σ ρ B [r] [v] → (match closeL ρ [r] with | some (ρ', [r']) => some (ρ', r') | _ => none) = some (ρ', r') →
      ∃ G' B', Grow G B G' B' ∧ OkVs K L G' H σ ρ' B' [r'] [v] ∧ (∀ qs, r' = .tp qs → ∀ q ∈ qs, noBor q = true) ∧ ∀ i, r' ≠ .bor i := fun {r} hr k e => by
    cases q : closeL ρ [r] with
    | none => simp only [q] at e; cases e
    | some x =>
      obtain ⟨ρ1, l1⟩ := x
      obtain ⟨G', B', g, k', n⟩ := closeL_ok k q
      simp only [q] at e
      split at e
      · rename_i heq
        cases heq
        cases e
        have := n r' List.mem_cons_self
        refine ⟨G', B', g, k', fun qs z => ?_, fun i z => ?_⟩
        · subst z; simp [noBor] at this
        · subst z; simp [noBor] at this
      · cases e
  cases r with
  | tp qs =>
    unfold closeR at e
    cases q : closeL ρ qs with
    | none => simp only [q] at e; cases e
    | some x =>
      obtain ⟨ρ1, l1⟩ := x
      simp only [q, Option.map_some] at e
      cases e
      cases k with
      | @tp _ p _ ws _ _ g0 l0 b0 n k =>
        rw [List.append_nil, List.append_nil] at k
        obtain ⟨G', B', g, k', nb⟩ := closeL_ok k q
        have hp : B' p = some (.tup ws) := g.bb p _ upd_same
        refine ⟨G', del B' p, ⟨ex_del g.bb b0, fun a u ha => g.fr a u (by rw [upd_ne (ne_of_none ha b0)]; exact ha)⟩, ?_, fun qs z => ?_, fun i z => by cases z⟩
        · refine .tp ((g.fr p _ upd_same).trans g0) l0 del_same k'.length ?_
          rw [upd_del hp, List.append_nil, List.append_nil]
          exact k'
        · cases z; exact nb
  | fz d => exact flat (by simp) k e
  | own d => exact flat (by simp) k e
  | bor j => exact flat (by simp) k e
/-- the objects of the parameters that may be changed, in a row -/
def outsOf (ρ : Env) : List Md → Nat → Option (List D)
  | [], _ => some []
  | .io :: ms, i => match ρ[i]? with
    | some (.own d) => (outsOf ρ ms (i + 1)).map (d :: ·)
    | _ => none
  | _ :: ms, i => outsOf ρ ms (i + 1)
theorem outsOf_set : ∀ {ms : List Md} {n i : Nat} {x : Sl}, i < n → outsOf (ρ.set i x) ms n = outsOf ρ ms n
  | [], _, _, _, _ => rfl
  | m :: ms, n, i, x, h => by
    cases m with
    | fz => exact outsOf_set (ms := ms) (by omega)
    | ln => exact outsOf_set (ms := ms) (by omega)
    | io =>
      unfold outsOf
      rw [List.getElem?_set_ne (by omega), outsOf_set (ms := ms) (n := n + 1) (by omega)]
theorem outs_take : ∀ {ms : List Md} {ws : List V} {n : Nat} {outs : List D} {ρ : Env} {B : Hp}, OkVs K L G H σ ρ B rs vs → (∀ (i : Nat) v, ms[i]? = some .io → ws[i]? = some v → σ[n + i]? = some (some v)) → ws.length = ms.length → outsOf ρ ms n = some outs →
    ∃ ρ', OkVs K L G H σ ρ' B (outs.map .own ++ rs) (iovs ms ws ++ vs)
  | [], ws, n, outs, ρ, B, k, hw, hl, e => by
    cases e
    cases ws with
    | nil => exact ⟨ρ, k⟩
    | cons => simp at hl
  | m :: ms, ws, n, outs, ρ, B, k, hw, hl, e => by
    cases ws with
    | nil => simp at hl
    | cons w ws =>
      have hw' : ∀ (i : Nat) v, ms[i]? = some .io → ws[i]? = some v → σ[n + 1 + i]? = some (some v) := fun i v a b => by
        have := hw (i + 1) v (by simpa using a) (by simpa using b)
        rw [Nat.add_assoc, Nat.add_comm 1 i]; exact this
      cases m with
      | fz => exact outs_take (ms := ms) (ws := ws) (n := n + 1) k hw' (by simpa using hl) (by simpa only [outsOf] using e)
      | ln => exact outs_take (ms := ms) (ws := ws) (n := n + 1) k hw' (by simpa using hl) (by simpa only [outsOf] using e)
      | io =>
        unfold outsOf at e
        split at e
        · rename_i d hd
          cases q : outsOf ρ ms (n + 1) with
          | none => rw [q] at e; cases e
          | some outs1 =>
            rw [q] at e; cases e
            obtain ⟨l, o, h1, hg, hL, hb, ho, ro, kk⟩ := k.takeSlot hd
            have hv := hw 0 w (by simp) (by simp)
            rw [Nat.add_zero] at hv
            rw [h1] at hv; cases hv
            obtain ⟨ρ', k'⟩ := outs_take (ms := ms) (ws := ws) (n := n + 1) kk hw' (by simpa using hl) (by rw [outsOf_set (by omega)]; exact q)
            exact ⟨ρ', .own hg hL hb ro k'⟩
        · cases e
/-- nothing of a slot is left: the slots are forgotten -/
def clR : R → Bool
  | .fz _ | .own _ => true
  | .tp qs => qs.all noBor
  | _ => false
theorem OkVs.forget (h : OkVs K L G H σ ρ B rs vs) (hn : ∀ r ∈ rs, clR r = true) : OkVs K noL G H [] [] B rs vs := by
  induction h with
  | nil s => exact .nil ⟨s.gb, fun _ _ _ q => q.elim, s.bh, rfl, by simp, by simp, by simp, by simp⟩
  | fz a _ ih => exact .fz a (ih fun r hr => hn r (List.mem_cons_of_mem _ hr))
  | own g l b a _ ih => exact .own g (fun _ _ q => q) b a (ih fun r hr => hn r (List.mem_cons_of_mem _ hr))
  | bor _ _ _ => exact absurd (hn _ List.mem_cons_self) (by simp [clR])
  | @tp B p qs ws rs vs g l b n _ ih =>
    refine .tp g (fun _ _ q => q) b n (ih fun r hr => ?_)
    rcases List.mem_append.mp hr with hr | hr
    · have := hn _ List.mem_cons_self
      have := List.all_eq_true.mp this r hr
      cases r <;> simp_all [noBor, clR]
    · exact hn r (List.mem_cons_of_mem _ hr)
end
/-- a def by its body -/
def denF (ms : List Md) (n : Nat) (body : Env → O Fl) (ds : List D) : FO := match body (env0 ms n ds) with
  | .ok ρ (.rt r) => (match closeR ρ r with
    | some (ρ', r') => (match outsOf ρ' ms 0 with
      | some outs => .ok outs r'
      | none => .un)
    | none => .un)
  | .ok ρ .nx => (match outsOf ρ ms 0 with
    | some outs => .ok outs (.fz .non)
    | none => .un)
  | .er ρ e => (match outsOf ρ ms 0 with
    | some outs => .er outs e
    | none => .un)
  | _ => .un
theorem Stay.get {S : List Nat} {N : List Str} {vs : List V} {σ' : L2.St} {i : Nat} {v : V} (h : Stay S (L2.start N vs) σ') (hi : i ∉ S) (e : vs[i]? = some v) : σ'[i]? = some (some v) := by
  rw [h.2 i hi, start_get (List.getElem?_eq_some_iff.mp e).1, e]
  rfl
end DN
set_option maxHeartbeats 2000000
namespace DN
open PySem PySem.Spec PyProof.Rows L2
open Evl (Ex)
def isTp : R → Bool
  | .tp _ => true
  | _ => false
def passA (ρ : Env) : List Md → List R → Option (Env × List R)
  | [], [] => some (ρ, [])
  | m :: ms, r :: rs => if (decide (m = .fz) || isTp r) = true then (match escR ρ r with
      | some (ρ1, d) => (passA ρ1 ms rs).map fun x => (x.1, .fz d :: x.2)
      | none => none) else (passA ρ ms rs).map fun x => (x.1, r :: x.2)
  | _, _ => none
def passB (ρ : Env) : List Md → List R → Option (List D)
  | [], [] => some []
  | .io :: ms, r :: rs => (match r with
    | .own d => (passB ρ ms rs).map (d :: ·)
    | .bor i => (match ρ[i]? with
      | some (.own d) => (passB ρ ms rs).map (d :: ·)
      | _ => none)
    | _ => none)
  | _ :: ms, r :: rs => match useR ρ r with
    | some d => (passB ρ ms rs).map (d :: ·)
    | none => none
  | _, _ => none
/-- the slots that are changed; those that are read -/
def ioSl : List Md → List R → List Nat
  | .io :: ms, .bor i :: rs => i :: ioSl ms rs
  | _ :: ms, _ :: rs => ioSl ms rs
  | _, _ => []
def lnSl : List Md → List R → List Nat
  | .ln :: ms, .bor i :: rs => i :: lnSl ms rs
  | _ :: ms, _ :: rs => lnSl ms rs
  | _, _ => []
def ioOk (ms : List Md) (rs : List R) : Bool := decide ((ioSl ms rs).Nodup) && (ioSl ms rs).all fun i => decide (i ∉ lnSl ms rs)
def putIO (ρ : Env) : List Md → List R → List D → Env
  | .io :: ms, .bor i :: rs, d :: outs => putIO (ρ.set i (.own d)) ms rs outs
  | .io :: ms, _ :: rs, _ :: outs => putIO ρ ms rs outs
  | _ :: ms, _ :: rs, outs => putIO ρ ms rs outs
  | _, _, _ => ρ
def unIO (ρ : Env) (is : List Nat) : Env := is.foldl (fun ρ i => ρ.set i .un) ρ
def callM (ms : List Md) (m : List D → FO) (ρ : Env) (rs : List R) : O R := match passA ρ ms rs with
  | some (ρ1, rs1) => if ioOk ms rs1 = true then (match passB ρ1 ms rs1 with
    | some ds => (match m ds with
      | .ok outs r => .ok (putIO (unIO ρ1 (ioSl ms rs1)) ms rs1 outs) r
      | .er outs e => .er (putIO (unIO ρ1 (ioSl ms rs1)) ms rs1 outs) e
      | .un => .un)
    | none => .un) else .un
  | none => .un
section
variable {K : PySem.W.Frag} {L : Lent} {G G' B B' H H' : Hp} {σ : L2.St} {ρ ρ' : Env} {rs rs' : List R} {vs : List V} {d : D} {v : V} {r : R} {i : Nat} {l : Addr} {o : HO}
theorem passA_len : ∀ {ms : List Md} {rs rs' : List R} {ρ ρ' : Env}, passA ρ ms rs = some (ρ', rs') → rs'.length = ms.length ∧ rs.length = ms.length
  | [], [], _, _, _, e => by cases e; exact ⟨rfl, rfl⟩
  | [], _ :: _, _, _, _, e => by cases e
  | _ :: _, [], _, _, _, e => by cases e
  | m :: ms, r :: rs, rs', ρ, ρ', e => by
    unfold passA at e
    split at e
    · split at e
      · rename_i ρ1 d _
        cases q : passA ρ1 ms rs with
        | none => rw [q] at e; cases e
        | some x => rw [q] at e; cases e; have := passA_len q; simp [this.1, this.2]
      · cases e
    · cases q : passA ρ ms rs with
      | none => rw [q] at e; cases e
      | some x => rw [q] at e; cases e; have := passA_len q; simp [this.1, this.2]
theorem passA_ok : ∀ {ms : List Md} {rs rs' : List R} {vs : List V} {G B : Hp} {ρ ρ' : Env}, OkVs K L G H σ ρ B rs vs → passA ρ ms rs = some (ρ', rs') → ∃ G' B', Grow G B G' B' ∧ OkVs K L G' H σ ρ' B' rs' vs ∧ (∀ r ∈ rs', isTp r = false) ∧
    ∀ (i : Nat) r, ms[i]? = some .fz → rs'[i]? = some r → ∃ d, r = .fz d
  | [], [], rs', vs, G, B, ρ, ρ', k, e => by cases e; exact ⟨G, B, .refl, k, by simp, by simp⟩
  | [], _ :: _, _, _, _, _, _, _, _, e => by cases e
  | _ :: _, [], _, _, _, _, _, _, _, e => by cases e
  | m :: ms, r :: rs, rs', vs, G, B, ρ, ρ', k, e => by
    have hl := k.length
    cases vs with
    | nil => simp at hl
    | cons v vs =>
      unfold passA at e
      split at e
      · split at e
        · rename_i ρ1 d he
          cases q : passA ρ1 ms rs with
          | none => rw [q] at e; cases e
          | some x =>
            rw [q] at e; cases e
            obtain ⟨G1, B1, g1, k1⟩ := k.esc he
            obtain ⟨a, b⟩ := k1.fzI
            obtain ⟨G2, B2, g2, k2, n2, f2⟩ := passA_ok b (by rw [q])
            refine ⟨G2, B2, g1.trans g2, .fz (a.mono (g2.gg b.base.1)) k2, fun r hr => ?_, fun i r h1 h2 => ?_⟩
            · rcases List.mem_cons.mp hr with rfl | hr
              · rfl
              · exact n2 r hr
            · cases i with
              | zero => simp at h2; exact ⟨d, h2.symm⟩
              | succ i => exact f2 i r (by simpa using h1) (by simpa using h2)
        · cases e
      · rename_i hc
        simp only [Bool.or_eq_true, decide_eq_true_eq, not_or, Bool.not_eq_true] at hc
        cases q : passA ρ ms rs with
        | none => rw [q] at e; cases e
        | some x =>
          rw [q] at e; cases e
          have nt : ∀ {G2 B2 : Hp}, (∀ r ∈ x.2, isTp r = false) → ∀ r' ∈ r :: x.2, isTp r' = false := fun n2 r' hr => by
            rcases List.mem_cons.mp hr with rfl | hr
            · exact hc.2
            · exact n2 r' hr
          have nf : (∀ (i : Nat) r, ms[i]? = some Md.fz → x.2[i]? = some r → ∃ d, r = R.fz d) → ∀ (i : Nat) r', (m :: ms)[i]? = some Md.fz → (r :: x.2)[i]? = some r' → ∃ d, r' = R.fz d := fun f2 i r' h1 h2 => by
            cases i with
            | zero => simp at h1; exact absurd h1 hc.1
            | succ i => exact f2 i r' (by simpa using h1) (by simpa using h2)
          cases k with
          | fz a k =>
            obtain ⟨G2, B2, g2, k2, n2, f2⟩ := passA_ok k (by rw [q])
            exact ⟨G2, B2, g2, .fz (a.mono (g2.gg k.base.1)) k2, nt (G2 := G2) (B2 := B2) n2, nf f2⟩
          | bor hv k =>
            obtain ⟨G2, B2, g2, k2, n2, f2⟩ := passA_ok k (by rw [q])
            exact ⟨G2, B2, g2, .bor hv k2, nt (G2 := G2) (B2 := B2) n2, nf f2⟩
          | @own _ l o d _ _ g0 l0 b0 a k =>
            obtain ⟨G2, B2, g2, k2, n2, f2⟩ := passA_ok k (by rw [q])
            have hl2 : B2 l = some o := g2.bb l o upd_same
            refine ⟨G2, del B2 l, ⟨ex_del g2.bb b0, fun p u hp => g2.fr p u (by rw [upd_ne (ne_of_none hp b0)]; exact hp)⟩, ?_, nt (G2 := G2) (B2 := B2) n2, nf f2⟩
            refine .own ((g2.fr l o upd_same).trans g0) l0 del_same (a.mono (g2.gg k.base.1)) ?_
            rw [upd_del hl2]
            exact k2
          | tp => simp [isTp] at hc
/-- with all that is pending -/
theorem OkVs.full (h : OkVs K L G H σ ρ B rs vs) (hn : ∀ r ∈ rs, isTp r = false) : ∃ Bf, Ex B Bf ∧ OkS K L G Bf H σ ρ ∧ (∀ (j : Nat) d, rs[j]? = some (.own d) → ∃ l o, vs[j]? = some (.ref l) ∧ Bf l = some o ∧ RepO K G d o ∧ G l = none ∧ B l = none) ∧
    (∀ (j : Nat) d, rs[j]? = some (.fz d) → ∃ v, vs[j]? = some v ∧ Rep K G d v) ∧ (∀ (j k : Nat), rs[j]? = some (.bor k) → vs[j]? = σ[k]?.join) ∧
    ∀ (j k : Nat) d d' l, rs[j]? = some (.own d) → rs[k]? = some (.own d') → vs[j]? = some (.ref l) → vs[k]? = some (.ref l) → j = k := by
  induction h with
  | nil s => exact ⟨_, Ex.refl _, s, by simp, by simp, by simp, by simp⟩
  | @fz B d v rs vs a _ ih =>
    obtain ⟨Bf, e, s, h1, h2, h3, h4⟩ := ih fun r hr => hn r (List.mem_cons_of_mem _ hr)
    refine ⟨Bf, e, s, fun j d hj => ?_, fun j d hj => ?_, fun j k hj => ?_, fun j k d1 d2 l a b c q => ?_⟩
    · cases j with
      | zero => simp at hj
      | succ j => simpa using h1 j d (by simpa using hj)
    · cases j with
      | zero => simp at hj; subst hj; exact ⟨v, by simp, a⟩
      | succ j => simpa using h2 j d (by simpa using hj)
    · cases j with
      | zero => simp at hj
      | succ j => simpa using h3 j k (by simpa using hj)
    · cases j with
      | zero => simp at a
      | succ j =>
        cases k with
        | zero => simp at b
        | succ k => exact congrArg (· + 1) (h4 j k d1 d2 l (by simpa using a) (by simpa using b) (by simpa using c) (by simpa using q))
  | @bor B i v rs vs a _ ih =>
    obtain ⟨Bf, e, s, h1, h2, h3, h4⟩ := ih fun r hr => hn r (List.mem_cons_of_mem _ hr)
    refine ⟨Bf, e, s, fun j d hj => ?_, fun j d hj => ?_, fun j k hj => ?_, fun j k d1 d2 l a b c q => ?_⟩
    · cases j with
      | zero => simp at hj
      | succ j => simpa using h1 j d (by simpa using hj)
    · cases j with
      | zero => simp at hj
      | succ j => simpa using h2 j d (by simpa using hj)
    · cases j with
      | zero => simp at hj; subst hj; rw [a]; simp
      | succ j => simpa using h3 j k (by simpa using hj)
    · cases j with
      | zero => simp at a
      | succ j =>
        cases k with
        | zero => simp at b
        | succ k => exact congrArg (· + 1) (h4 j k d1 d2 l (by simpa using a) (by simpa using b) (by simpa using c) (by simpa using q))
  | @own B l0 o0 d0 rs vs g0 n0 b0 a k ih =>
    obtain ⟨Bf, e, s, h1, h2, h3, h4⟩ := ih fun r hr => hn r (List.mem_cons_of_mem _ hr)
    have up : ∀ {l : Addr}, upd B l0 o0 l = none → l ≠ l0 ∧ B l = none := fun {l} h => by
      have hl : l ≠ l0 := fun z => by subst z; rw [upd_same] at h; cases h
      rw [upd_ne hl] at h
      exact ⟨hl, h⟩
    refine ⟨Bf, (Ex.new b0).trans e, s, fun j d hj => ?_, fun j d hj => ?_, fun j k hj => ?_, fun j k d1 d2 l a b c q => ?_⟩
    · cases j with
      | zero => simp at hj; subst hj; exact ⟨l0, o0, by simp, e _ _ upd_same, a, g0, b0⟩
      | succ j =>
        obtain ⟨l, o, a1, a2, a3, a4, a5⟩ := h1 j d (by simpa using hj)
        exact ⟨l, o, by simpa using a1, a2, a3, a4, (up a5).2⟩
    · cases j with
      | zero => simp at hj
      | succ j => simpa using h2 j d (by simpa using hj)
    · cases j with
      | zero => simp at hj
      | succ j => simpa using h3 j k (by simpa using hj)
    · cases j with
      | zero =>
        cases k with
        | zero => rfl
        | succ k =>
          simp at c
          obtain ⟨l', o', a1, a2, a3, a4, a5⟩ := h1 k d2 (by simpa using b)
          rw [show vs[k]? = some (V.ref l) by simpa using q] at a1
          cases a1
          exact absurd c.symm (up a5).1
      | succ j =>
        cases k with
        | zero =>
          simp at q
          obtain ⟨l', o', a1, a2, a3, a4, a5⟩ := h1 j d1 (by simpa using a)
          rw [show vs[j]? = some (V.ref l) by simpa using c] at a1
          cases a1
          exact absurd q.symm (up a5).1
        | succ k => exact congrArg (· + 1) (h4 j k d1 d2 l (by simpa using a) (by simpa using b) (by simpa using c) (by simpa using q))
  | tp => exact absurd (hn _ List.mem_cons_self) (by simp [isTp])
/-- the addresses that are changed -/
def ioA (ms : List Md) (vs : List V) (a : Addr) : Prop := ∃ i : Nat, ms[i]? = some .io ∧ vs[i]? = some (.ref a)
open Classical in
/-- all but these -/
noncomputable def butIO (H : Hp) (ms : List Md) (vs : List V) : Hp := fun a => if ioA ms vs a then none else H a
theorem butIO_in {ms : List Md} {a : Addr} (h : ioA ms vs a) : butIO H ms vs a = none := if_pos h
theorem butIO_out {ms : List Md} {a : Addr} (h : ¬ ioA ms vs a) : butIO H ms vs a = H a := if_neg h
theorem butIO_some {ms : List Md} {a : Addr} {o : HO} (h : butIO H ms vs a = some o) : ¬ ioA ms vs a ∧ H a = some o := by
  by_cases q : ioA ms vs a
  · rw [butIO_in q] at h; cases h
  · exact ⟨q, (butIO_out q).symm.trans h⟩
open Classical in
noncomputable def join (G B : Hp) : Hp := fun a => if G a = none then B a else G a
theorem join_l {G B : Hp} {a : Addr} {o : HO} (h : G a = some o) : join G B a = some o := by unfold join; rw [if_neg (by rw [h]; simp), h]
theorem join_r {G B : Hp} {a : Addr} (h : G a = none) : join G B a = B a := if_pos h
theorem passB_len : ∀ {ms : List Md} {rs : List R} {ds : List D}, passB ρ ms rs = some ds → ds.length = ms.length
  | [], [], _, e => by cases e; rfl
  | [], _ :: _, _, e => by simp [passB] at e
  | m :: _, [], _, e => by cases m <;> simp [passB] at e
  | m :: ms, r :: rs, ds, e => by
    have c : ∀ {d : D}, (passB ρ ms rs).map (d :: ·) = some ds → ds.length = (m :: ms).length := fun {d} e => by
      cases q : passB ρ ms rs with
      | none => rw [q] at e; cases e
      | some x => rw [q] at e; cases e; simp [passB_len q]
    cases m with
    | io =>
      cases r with
      | own d => exact c (by simpa only [passB] using e)
      | bor i =>
        simp only [passB] at e
        split at e
        · exact c e
        · cases e
      | fz d => simp [passB] at e
      | tp qs => simp [passB] at e
    | fz =>
      simp only [passB] at e
      split at e
      · exact c e
      · cases e
    | ln =>
      simp only [passB] at e
      split at e
      · exact c e
      · cases e
theorem passB_get : ∀ {ms : List Md} {rs : List R} {ds : List D} {i : Nat} {m : Md} {d : D}, passB ρ ms rs = some ds → ms[i]? = some m → ds[i]? = some d → ∃ r, rs[i]? = some r ∧
    ((m = .io ∧ (r = .own d ∨ ∃ j, r = .bor j ∧ ρ[j]? = some (.own d))) ∨ (m ≠ .io ∧ useR ρ r = some d))
  | [], _, _, _, _, _, _, h, _ => by simp at h
  | m0 :: _, [], _, _, _, _, e, _, _ => by cases m0 <;> simp [passB] at e
  | m0 :: ms, r :: rs, ds, i, m, d, e, h1, h2 => by
    have c : ∀ {d0 : D}, (passB ρ ms rs).map (d0 :: ·) = some ds → ((m0 = .io ∧ (r = .own d0 ∨ ∃ j, r = .bor j ∧ ρ[j]? = some (.own d0))) ∨ (m0 ≠ .io ∧ useR ρ r = some d0)) → ∃ r', (r :: rs)[i]? = some r' ∧
        ((m = .io ∧ (r' = .own d ∨ ∃ j, r' = .bor j ∧ ρ[j]? = some (.own d))) ∨ (m ≠ .io ∧ useR ρ r' = some d)) := fun {d0} e hd => by
      cases q : passB ρ ms rs with
      | none => rw [q] at e; cases e
      | some x =>
        rw [q] at e; cases e
        cases i with
        | zero => simp at h1 h2; subst h1; subst h2; exact ⟨r, by simp, hd⟩
        | succ i => simpa using passB_get (i := i) q (by simpa using h1) (by simpa using h2)
    cases m0 with
    | io =>
      cases r with
      | own d0 => exact c (by simpa only [passB] using e) (.inl ⟨rfl, .inl rfl⟩)
      | bor j =>
        simp only [passB] at e
        split at e
        · rename_i d0 hj
          exact c e (.inl ⟨rfl, .inr ⟨j, rfl, hj⟩⟩)
        · cases e
      | fz d => simp [passB] at e
      | tp qs => simp [passB] at e
    | fz =>
      simp only [passB] at e
      split at e
      · rename_i d0 hu
        exact c e (.inr ⟨by simp, hu⟩)
      · cases e
    | ln =>
      simp only [passB] at e
      split at e
      · rename_i d0 hu
        exact c e (.inr ⟨by simp, hu⟩)
      · cases e
theorem mem_ioSl : ∀ {ms : List Md} {rs : List R} {i j : Nat}, ms[i]? = some .io → rs[i]? = some (.bor j) → j ∈ ioSl ms rs
  | [], _, _, _, h, _ => by simp at h
  | _ :: _, [], _, _, _, h => by simp at h
  | m :: ms, r :: rs, 0, j, h1, h2 => by simp at h1 h2; subst h1; subst h2; exact List.mem_cons_self
  | m :: ms, r :: rs, i + 1, j, h1, h2 => by
    have ih : j ∈ ioSl ms rs := mem_ioSl (i := i) (by simpa using h1) (by simpa using h2)
    cases m <;> cases r <;> simp only [ioSl] <;> first | exact ih | exact List.mem_cons_of_mem _ ih
theorem mem_lnSl : ∀ {ms : List Md} {rs : List R} {i j : Nat}, ms[i]? = some .ln → rs[i]? = some (.bor j) → j ∈ lnSl ms rs
  | [], _, _, _, h, _ => by simp at h
  | _ :: _, [], _, _, _, h => by simp at h
  | m :: ms, r :: rs, 0, j, h1, h2 => by simp at h1 h2; subst h1; subst h2; exact List.mem_cons_self
  | m :: ms, r :: rs, i + 1, j, h1, h2 => by
    have ih : j ∈ lnSl ms rs := mem_lnSl (i := i) (by simpa using h1) (by simpa using h2)
    cases m <;> cases r <;> simp only [lnSl] <;> first | exact ih | exact List.mem_cons_of_mem _ ih
theorem nodup_ioSl : ∀ {ms : List Md} {rs : List R} {i i' j : Nat}, (ioSl ms rs).Nodup → ms[i]? = some .io → rs[i]? = some (.bor j) → ms[i']? = some .io → rs[i']? = some (.bor j) → i = i'
  | [], _, _, _, _, _, h, _, _, _ => by simp at h
  | _ :: _, [], _, _, _, _, _, h, _, _ => by simp at h
  | m :: ms, r :: rs, i, i', j, n, h1, h2, h3, h4 => by
    have tl : (ioSl ms rs).Nodup := by
      cases m <;> cases r <;> simp only [ioSl] at n <;> first | exact n | exact (List.nodup_cons.mp n).2
    cases i with
    | zero =>
      cases i' with
      | zero => rfl
      | succ i' =>
        simp at h1 h2; subst h1; subst h2
        simp only [ioSl] at n
        exact absurd (mem_ioSl (i := i') (by simpa using h3) (by simpa using h4)) (List.nodup_cons.mp n).1
    | succ i =>
      cases i' with
      | zero =>
        simp at h3 h4; subst h3; subst h4
        simp only [ioSl] at n
        exact absurd (mem_ioSl (i := i) (by simpa using h1) (by simpa using h2)) (List.nodup_cons.mp n).1
      | succ i' => exact congrArg (· + 1) (nodup_ioSl (i := i) (i' := i') tl (by simpa using h1) (by simpa using h2) (by simpa using h3) (by simpa using h4))
/-- what a callee is handed -/
theorem call_args {ms : List Md} {ds : List D} (k : OkVs K L G H σ ρ B rs vs) (hn : ∀ r ∈ rs, isTp r = false) (hfz : ∀ (i : Nat) r, ms[i]? = some .fz → rs[i]? = some r → ∃ d, r = .fz d) (hl : rs.length = ms.length) (hio : ioOk ms rs = true) (e : passB ρ ms rs = some ds) :
    ArgsOk K G (butIO H ms vs) H ms ds vs ∧ (∀ a, ioA ms vs a → B a = none) ∧ ∀ (i : Nat) d l, ρ[i]? = some (.own d) → i ∉ ioSl ms rs → σ[i]? = some (some (.ref l)) → ¬ ioA ms vs l := by
  obtain ⟨Bf, eB, s, hown, hf, hbor, hdis⟩ := k.full hn
  obtain ⟨nd, nl⟩ := Bool.and_eq_true_iff.mp hio
  have nd : (ioSl ms rs).Nodup := of_decide_eq_true nd
  have lv : vs.length = ms.length := by rw [← k.length]; exact hl
  -- an address that is changed: a temporary's or a slot's
  have io_of : ∀ {i : Nat} {a : Addr}, ms[i]? = some .io → vs[i]? = some (.ref a) → ∃ d o, ds[i]? = some d ∧ RepO K G d o ∧ H a = some o ∧ B a = none ∧ ((rs[i]? = some (.own d) ∧ Bf a = some o) ∨ ∃ j, rs[i]? = some (.bor j) ∧ ρ[j]? = some (.own d) ∧ σ[j]? = some (some (.ref a)) ∧ Bf a = none) := fun {i a} h1 h2 => by
    have hi : i < ds.length := by rw [passB_len e]; exact (List.getElem?_eq_some_iff.mp h1).1
    obtain ⟨r, hr, q⟩ := passB_get e h1 (List.getElem?_eq_getElem hi)
    rcases q with ⟨_, q⟩ | ⟨q, _⟩
    · rcases q with rfl | ⟨j, rfl, hj⟩
      · obtain ⟨l, o, w1, w2, w3, w4, w5⟩ := hown i _ hr
        rw [h2] at w1; cases w1
        exact ⟨_, o, List.getElem?_eq_getElem hi, w3, s.bh _ _ w2, w5, .inl ⟨hr, w2⟩⟩
      · obtain ⟨l, o, w1, w2, w3, w4⟩ := s.ow j _ hj
        have := hbor i j hr
        rw [h2, w1] at this
        cases this
        exact ⟨_, o, List.getElem?_eq_getElem hi, w4, w3, none_of_ex eB w2, .inr ⟨j, hr, hj, w1, w2⟩⟩
    · exact absurd rfl q
  have bNone : ∀ a, ioA ms vs a → B a = none := fun a ⟨i, h1, h2⟩ => by
    obtain ⟨_, _, _, _, _, h, _⟩ := io_of h1 h2
    exact h
  have gNone : ∀ a, ioA ms vs a → G a = none := fun a h => none_of_ex k.base.1 (bNone a h)
  -- a slot that is no changed one
  have slotNo : ∀ {i : Nat} {d : D} {l : Addr}, ρ[i]? = some (.own d) → i ∉ ioSl ms rs → σ[i]? = some (some (.ref l)) → ¬ ioA ms vs l := fun {i d l} hi hn hv ⟨j, h1, h2⟩ => by
    obtain ⟨l', o', w1, w2, _⟩ := s.ow i d hi
    rw [hv] at w1; cases w1
    obtain ⟨d', o, _, _, _, _, q⟩ := io_of h1 h2
    rcases q with ⟨_, q⟩ | ⟨j', q1, q2, q3, q4⟩
    · rw [w2] at q; cases q
    · have : i = j' := s.dis i j' d d' l hi q2 hv q3
      subst this
      exact hn (mem_ioSl h1 q1)
  refine ⟨⟨fun a u q => ?_, fun a u q => (butIO_some q).2, passB_len e, lv, fun i m d v h1 h2 h3 => ?_, fun i j l h1 h2 w1 w2 => ?_⟩, bNone, fun i d l => slotNo⟩
  · have na : ¬ ioA ms vs a := fun z => by rw [gNone a z] at q; cases q
    rw [butIO_out na]
    exact s.gh a u q
  · obtain ⟨r, hr, q⟩ := passB_get e h1 h2
    cases m with
    | fz =>
      obtain ⟨d', rfl⟩ := hfz i r h1 hr
      obtain ⟨w, a, b⟩ := hf i d' hr
      rcases q with ⟨q, _⟩ | ⟨_, q⟩
      · cases q
      · cases q
        rw [h3] at a; cases a
        exact b
    | io =>
      rcases q with ⟨_, q⟩ | ⟨q, _⟩
      · rcases q with rfl | ⟨j, rfl, hj⟩
        · obtain ⟨l, o, a, _⟩ := hown i d hr
          rw [h3] at a; cases a
          obtain ⟨d', o', a1, a2, a3, _⟩ := io_of h1 h3
          rw [h2] at a1; cases a1
          exact ⟨l, o', rfl, butIO_in ⟨i, h1, h3⟩, a3, a2⟩
        · obtain ⟨l, o, w1, _⟩ := s.ow j d hj
          have := hbor i j hr
          rw [h3, w1] at this
          cases this
          obtain ⟨d', o', a1, a2, a3, _⟩ := io_of h1 h3
          rw [h2] at a1; cases a1
          exact ⟨l, o', rfl, butIO_in ⟨i, h1, h3⟩, a3, a2⟩
      · exact absurd rfl q
    | ln =>
      rcases q with ⟨q, _⟩ | ⟨_, q⟩
      · cases q
      · cases r with
        | fz d' =>
          cases q
          obtain ⟨w, a, b⟩ := hf i d hr
          rw [h3] at a; cases a
          exact .inl b
        | own d' =>
          cases q
          obtain ⟨l, o, a, b, c, g, b0⟩ := hown i d hr
          rw [h3] at a; cases a
          refine .inr ⟨l, o, rfl, ?_, c⟩
          rw [butIO_out]
          · exact s.bh _ _ b
          · rintro ⟨j, y1, y2⟩
            obtain ⟨d', o', _, _, _, _, q⟩ := io_of y1 y2
            rcases q with ⟨q1, _⟩ | ⟨_, _, _, _, q⟩
            · have := hdis i j d d' l hr q1 h3 y2
              subst this
              rw [h1] at y1; cases y1
            · rw [b] at q; cases q
        | bor j =>
          have hv := hbor i j hr
          rw [h3] at hv
          have hs : σ[j]? = some (some v) := by
            cases x : σ[j]? with
            | none => rw [x] at hv; cases hv
            | some y => rw [x] at hv; cases y with
              | none => cases hv
              | some z => cases hv; rfl
          simp only [useR, getD] at q
          cases x : ρ[j]? with
          | none => rw [x] at q; cases q
          | some y =>
            rw [x] at q
            cases y with
            | un => cases q
            | fz d' =>
              cases q
              obtain ⟨w, a, b⟩ := s.fz j d x
              rw [hs] at a; cases a
              exact .inl b
            | own d' =>
              cases q
              obtain ⟨l, o, a, b, c, r⟩ := s.ow j d x
              rw [hs] at a; cases a
              refine .inr ⟨l, o, rfl, ?_, r⟩
              rw [butIO_out (slotNo x ?_ hs)]
              · exact c
              · intro z
                have := List.all_eq_true.mp nl j z
                exact of_decide_eq_true this (mem_lnSl h1 hr)
            | ln d' =>
              cases q
              obtain ⟨w, a, b⟩ := s.ln j d x
              rw [hs] at a; cases a
              refine b.imp id fun ⟨l, o, ev, hL, r⟩ => ⟨l, o, ev, ?_, r⟩
              have hB : Bf l = some o := s.lb j l o hL
              rw [butIO_out]
              · exact s.bh _ _ hB
              · rintro ⟨j', y1, y2⟩
                have hb := bNone l ⟨j', y1, y2⟩
                have := k.base.2.1 j l o hL
                rw [hb] at this; cases this
        | tp qs => cases q
  · obtain ⟨d1, o1, a1, _, _, _, q1⟩ := io_of h1 w1
    obtain ⟨d2, o2, a2, _, _, _, q2⟩ := io_of h2 w2
    rcases q1 with ⟨q1, b1⟩ | ⟨j1, q1, y1, z1, b1⟩
    · rcases q2 with ⟨q2, b2⟩ | ⟨j2, q2, y2, z2, b2⟩
      · exact hdis i j d1 d2 l q1 q2 w1 w2
      · rw [b1] at b2; cases b2
    · rcases q2 with ⟨q2, b2⟩ | ⟨j2, q2, y2, z2, b2⟩
      · rw [b2] at b1; cases b1
      · have := s.dis j1 j2 d1 d2 l y1 y2 z1 z2
        subst this
        exact nodup_ioSl nd h1 q1 h2 q2
end
end DN
set_option maxHeartbeats 2000000
namespace DN
open PySem PySem.Spec PyProof.Rows L2
open Evl (Ex)
section
variable {K : PySem.W.Frag} {L : Lent} {G G' B B' H H' : Hp} {σ : L2.St} {ρ ρ' : Env} {rs rs' : List R} {vs : List V} {d : D} {v : V} {r : R} {i : Nat} {l : Addr} {o : HO}
theorem unIO_get : ∀ {is : List Nat} {ρ : Env} {j : Nat} {x : Sl}, x ≠ .un → (unIO ρ is)[j]? = some x → j ∉ is ∧ ρ[j]? = some x
  | [], _, _, _, _, e => ⟨by simp, e⟩
  | i :: is, ρ, j, x, hx, e => by
    obtain ⟨h1, h2⟩ := unIO_get (is := is) (ρ := ρ.set i .un) hx e
    rw [List.getElem?_set] at h2
    by_cases h : i = j
    · rw [if_pos h] at h2
      split at h2
      · cases h2; exact absurd rfl hx
      · cases h2
    · rw [if_neg h] at h2
      exact ⟨fun z => (List.mem_cons.mp z).elim (fun z => h z.symm) h1, h2⟩
theorem unIO_length : ∀ {is : List Nat} {ρ : Env}, (unIO ρ is).length = ρ.length
  | [], _ => rfl
  | i :: is, ρ => by
    have := unIO_length (is := is) (ρ := ρ.set i .un)
    rw [List.length_set] at this
    exact this
theorem OkS.more (s : OkS K L G B H σ ρ) (hb : B l = none) (hh : H l = some o) (hn : ∀ (i : Nat) d, ρ[i]? = some (.own d) → σ[i]? ≠ some (some (.ref l))) : OkS K L G (upd B l o) H σ ρ := by
  refine ⟨s.gb.trans (Ex.new hb), s.lb.ex (Ex.new hb), fun a u q => ?_, s.len, s.fz, fun i d e => ?_, s.ln, s.dis⟩
  · by_cases ha : a = l
    · subst ha; rw [upd_same] at q; cases q; exact hh
    · rw [upd_ne ha] at q; exact s.bh a u q
  · obtain ⟨m, u, a, b, c, r⟩ := s.ow i d e
    have hm : m ≠ l := fun z => by subst z; exact hn i d e a
    exact ⟨m, u, a, by rw [upd_ne hm]; exact b, c, r⟩
theorem OkVs.rebase {Bx : Hp} (h : OkVs K noL G H [] [] Bx rs vs) : ∀ {Bn : Hp}, Ex Bn Bx → OkS K L G Bn H σ ρ → (∀ (i : Nat) d l, ρ[i]? = some (.own d) → σ[i]? = some (some (.ref l)) → Bx l ≠ none) → OkVs K L G H σ ρ Bn rs vs := by
  induction h with
  | nil _ => intro Bn e s _; exact .nil s
  | fz a _ ih => intro Bn e s q; exact .fz a (ih e s q)
  | bor a _ _ => intro Bn e s q; simp at a
  | @own Bx m u dd rs vs g n b a k ih =>
    intro Bn e s q
    have hb := none_of_ex e b
    refine .own g (s.lb.nl hb) hb a (ih (ex_upd e) (s.more hb (k.base.2.2 _ _ upd_same) fun i d h1 h2 => q i d m h1 h2 b) fun i d l h1 h2 h3 => ?_)
    by_cases hl : l = m
    · subst hl; exact q i d l h1 h2 b
    · rw [upd_ne hl] at h3; exact q i d l h1 h2 h3
  | @tp Bx m qs ws rs vs g n b hl k ih =>
    intro Bn e s q
    have hb := none_of_ex e b
    refine .tp g (s.lb.nl hb) hb hl (ih (ex_upd e) (s.more hb (k.base.2.2 _ _ upd_same) fun i d h1 h2 => q i d m h1 h2 b) fun i d l h1 h2 h3 => ?_)
    by_cases hl : l = m
    · subst hl; exact q i d l h1 h2 b
    · rw [upd_ne hl] at h3; exact q i d l h1 h2 h3
theorem OkS.putSlot (s : OkS K L G (upd B l o) H σ ρ) (hg : G l = none) (hl : NL L l) (hb : B l = none) (r : RepO K G d o) (hv : σ[i]? = some (some (.ref l))) : OkS K L G B H σ (ρ.set i (.own d)) := by
  have := s.setOwn (i := i) hg hl hb r
  have e : σ.set i (some (.ref l)) = σ := by
    refine List.ext_getElem? fun j => ?_
    rw [List.getElem?_set]
    by_cases h : i = j
    · subst h
      rw [if_pos rfl, hv, if_pos (List.getElem?_eq_some_iff.mp hv).1]
    · rw [if_neg h]
  rw [e] at this
  exact this
theorem OkVs.putSlot (h : OkVs K L G H σ ρ B (.own d :: rs) (v :: vs)) (hv : σ[i]? = some (some v)) : OkVs K L G H σ (ρ.set i (.own d)) B rs vs := by
  cases h with
  | @own _ l o _ _ _ g n b a k =>
    have key : ∀ {B2 : Hp} {rs : List R} {vs : List V}, OkVs K L G H σ ρ B2 rs vs → ∀ {B : Hp}, B2 = upd B l o → B l = none → OkVs K L G H σ (ρ.set i (.own d)) B rs vs := by
      intro B2 rs vs k
      induction k with
      | nil s => intro B e hb; subst e; exact .nil (s.putSlot g n hb a hv)
      | fz x _ ih => intro B e hb; exact .fz x (ih e hb)
      | bor x _ ih => intro B e hb; exact .bor x (ih e hb)
      | @own B2 m u e rs vs g0 n0 b0 x k ih =>
        intro B e hb
        subst e
        have hm : m ≠ l := fun z => by subst z; rw [upd_same] at b0; cases b0
        rw [upd_ne hm] at b0
        exact .own g0 n0 b0 x (ih (upd_comm (Ne.symm hm)) (by rw [upd_ne (Ne.symm hm)]; exact hb))
      | @tp B2 m qs ws rs vs g0 n0 b0 hl k ih =>
        intro B e hb
        subst e
        have hm : m ≠ l := fun z => by subst z; rw [upd_same] at b0; cases b0
        rw [upd_ne hm] at b0
        exact .tp g0 n0 b0 hl (ih (upd_comm (Ne.symm hm)) (by rw [upd_ne (Ne.symm hm)]; exact hb))
    exact key k rfl b
theorem put_outs {ss : List R} {us : List V} : ∀ {ms : List Md} {rs : List R} {vs : List V} {outs : List D} {ρ : Env}, OkVs K L G H σ ρ B (outs.map .own ++ ss) (iovs ms vs ++ us) → rs.length = ms.length → vs.length = ms.length → ss.length = us.length → (∀ (j k : Nat) v, rs[j]? = some (.bor k) → vs[j]? = some v → σ[k]? = some (some v)) →
    OkVs K L G H σ (putIO ρ ms rs outs) B ss us
  | [], rs, vs, outs, ρ, k, hl, lv, hs, hb => by
    cases rs with
    | cons => simp at hl
    | nil =>
      cases vs with
      | cons => simp at lv
      | nil =>
        have := k.length
        simp only [iovs, List.length_append, List.length_map, List.nil_append] at this
        have e : outs = [] := List.eq_nil_of_length_eq_zero (by omega)
        subst e
        exact k
  | m :: ms, [], vs, outs, ρ, k, hl, lv, hs, hb => by simp at hl
  | m :: ms, r :: rs, [], outs, ρ, k, hl, lv, hs, hb => by simp at lv
  | m :: ms, r :: rs, v :: vs, outs, ρ, k, hl, lv, hs, hb => by
    have hb' : ∀ (j k : Nat) v, rs[j]? = some (.bor k) → vs[j]? = some v → σ[k]? = some (some v) := fun j k v a b => hb (j + 1) k v (by simpa using a) (by simpa using b)
    have skip : m ≠ .io → OkVs K L G H σ (putIO ρ (m :: ms) (r :: rs) outs) B ss us := fun hm => by
      have k' : OkVs K L G H σ ρ B (outs.map .own ++ ss) (iovs ms vs ++ us) := by cases m <;> first | exact absurd rfl hm | exact k
      have := put_outs (ms := ms) (rs := rs) (vs := vs) k' (by simpa using hl) (by simpa using lv) hs hb'
      cases m <;> first | exact absurd rfl hm | exact this
    cases m with
    | fz => exact skip (by simp)
    | ln => exact skip (by simp)
    | io =>
      cases outs with
      | nil =>
        have := k.length
        simp only [iovs, List.length_append, List.map_nil, List.nil_append, List.length_cons] at this
        omega
      | cons d outs =>
        have k' : OkVs K L G H σ ρ B (.own d :: (outs.map .own ++ ss)) (v :: (iovs ms vs ++ us)) := k
        have rest := fun {ρ' : Env} (q : OkVs K L G H σ ρ' B (outs.map .own ++ ss) (iovs ms vs ++ us)) => put_outs (ms := ms) (rs := rs) (vs := vs) q (by simpa using hl) (by simpa using lv) hs hb'
        cases r with
        | bor i =>
          have hv := hb 0 i v (by simp) (by simp)
          exact rest (k'.putSlot hv)
        | fz d0 => exact rest k'.tail
        | own d0 => exact rest k'.tail
        | tp qs => exact rest k'.tail
/-- back from a call -/
theorem call_back {ms : List Md} {ds outs : List D} {ss : List R} {us : List V} {Bc : Hp} (k : OkVs K L G H σ ρ B rs vs) (hn : ∀ r ∈ rs, isTp r = false) (hfz : ∀ (i : Nat) r, ms[i]? = some .fz → rs[i]? = some r → ∃ d, r = .fz d) (hl : rs.length = ms.length) (hio : ioOk ms rs = true) (e : passB ρ ms rs = some ds)
    (g : Grow G (butIO H ms vs) G' Bc) (kk : OkVs K noL G' H' [] [] Bc (outs.map .own ++ ss) (iovs ms vs ++ us)) (hs : ss.length = us.length) :
    ∃ B', Grow G B G' B' ∧ OkVs K L G' H' σ (putIO (unIO ρ (ioSl ms rs)) ms rs outs) B' ss us := by
  obtain ⟨a, bNone, slotNo⟩ := call_args k hn hfz hl hio e
  have s := k.state k.length
  have eBc : Ex B (butIO H ms vs) := fun x u q => by
    have nx : ¬ ioA ms vs x := fun z => by rw [bNone x z] at q; cases q
    rw [butIO_out nx]
    exact s.bh x u q
  have eG : Ex G G' := g.gg a.gb
  have eJ : ∀ x u, B x = some u → join G' B x = some u := fun x u q => by
    by_cases hg : G' x = none
    · rw [join_r hg]; exact q
    · have hc := eBc x u q
      have hg2 := g.fr x u hc
      cases q2 : G' x with
      | none => exact absurd q2 hg
      | some w =>
        rw [hg2] at q2
        have := s.gb x w q2
        rw [q] at this; cases this
        exact join_l (by rw [hg2]; exact q2)
  have jB : Ex (join G' B) Bc := fun x u q => by
    cases q2 : G' x with
    | none =>
      rw [join_r q2] at q
      exact g.bb x u (eBc x u q)
    | some w =>
      rw [join_l q2] at q; cases q
      exact kk.base.1 x u q2
  have gJ : Ex G' (join G' B) := fun x u q => join_l q
  refine ⟨join G' B, ⟨eJ, fun x u q => g.fr x u (eBc x u q)⟩, ?_⟩
  have s1 : OkS K L G' (join G' B) H' σ (unIO ρ (ioSl ms rs)) := by
    refine ⟨gJ, s.lb.ex eJ, jB.trans kk.base.2.2, by rw [unIO_length]; exact s.len, fun i d q => ?_, fun i d q => ?_, fun i d q => ?_, fun i j d d' l q1 q2 => s.dis i j d d' l (unIO_get (by simp) q1).2 (unIO_get (by simp) q2).2⟩
    · obtain ⟨v, x, y⟩ := s.fz i d (unIO_get (by simp) q).2
      exact ⟨v, x, y.mono eG⟩
    · obtain ⟨hi, hq⟩ := unIO_get (by simp) q
      obtain ⟨l, o, w1, w2, w3, w4⟩ := s.ow i d hq
      have hc : butIO H ms vs l = some o := by rw [butIO_out (slotNo i d l hq hi w1)]; exact w3
      have hg : G' l = none := (g.fr l o hc).trans (none_of_ex s.gb w2)
      exact ⟨l, o, w1, by rw [join_r hg]; exact w2, kk.base.2.2 l o (g.bb l o hc), w4.mono eG⟩
    · obtain ⟨v, x, y⟩ := s.ln i d (unIO_get (by simp) q).2
      exact ⟨v, x, y.imp (fun z => z.mono eG) fun ⟨l, o, p, q, r⟩ => ⟨l, o, p, q, r.mono eG⟩⟩
  have k1 := kk.rebase jB s1 fun i d l q1 q2 => by
    obtain ⟨hi, hq⟩ := unIO_get (by simp) q1
    obtain ⟨l', o, w1, w2, w3, w4⟩ := s.ow i d hq
    rw [q2] at w1; cases w1
    have hc : butIO H ms vs l = some o := by rw [butIO_out (slotNo i d l hq hi q2)]; exact w3
    rw [g.bb l o hc]
    simp
  obtain ⟨Bf, _, _, _, _, hbor, _⟩ := k.full hn
  refine put_outs k1 hl (by rw [← k.length]; exact hl) hs fun j i v h1 h2 => ?_
  have := hbor j i h1
  rw [h2] at this
  cases x : σ[i]? with
  | none => rw [x] at this; cases this
  | some y => rw [x] at this; cases y with
    | none => cases this
    | some z => cases this; rfl
end
section
variable {K : PySem.W.Frag} {Wx : WX} {L : Lent} {G B H : Hp} {σ : L2.St} {ρ : Env} {rs : List R} {vs : List V}
/-- a call by a promise -/
theorem callM_ok {ms : List Md} {m : List D → FO} {Q : VK} (k : OkVs K L G H σ ρ B rs vs) (p : Post K Wx L G B σ (callM ms m ρ rs) fun ρ' r G' B' H' => ∀ v, OkVs K L G' H' σ ρ' B' [r] [v] → Q v H') :
    spM K ms m vs H Q fun c d H' => Wx c d σ H' := by
  unfold callM at p
  cases e1 : passA ρ ms rs with
  | none => simp only [e1] at p; exact p.elim
  | some x =>
    obtain ⟨ρ1, rs1⟩ := x
    simp only [e1] at p
    obtain ⟨G1, B1, g1, k1, hn, hfz⟩ := passA_ok k e1
    have hl := (passA_len e1).1
    by_cases hio : ioOk ms rs1 = true
    · rw [if_pos hio] at p
      cases e2 : passB ρ1 ms rs1 with
      | none => simp only [e2] at p; exact p.elim
      | some ds =>
        simp only [e2] at p
        obtain ⟨a, _, _⟩ := call_args k1 hn hfz hl hio e2
        refine ⟨G1, butIO H ms vs, ds, a, ?_⟩
        cases em : m ds with
        | un => simp only [em] at p; exact p.elim
        | ok outs r =>
          simp only [em] at p
          intro G' B' H' v g kk
          obtain ⟨B2, g2, k2⟩ := call_back k1 hn hfz hl hio e2 g kk rfl
          exact p G' B2 H' (g1.trans g2) v k2
        | er outs e =>
          simp only [em] at p
          intro G' B' H' c d g kk oe
          obtain ⟨B2, g2, k2⟩ := call_back (ss := []) (us := []) k1 hn hfz hl hio e2 g (by simpa using kk) rfl
          exact p G' B2 H' c d (g1.trans g2) k2.state oe
    · rw [if_neg hio] at p; exact p.elim
theorem iovs_app : ∀ {ms : List Md} {vs : List V} {n : Nat} {dv : List V}, vs.length = ms.length → iovs (ms ++ List.replicate n .fz) (vs ++ dv) = iovs ms vs
  | [], [], n, dv, _ => by
    show iovs (List.replicate n .fz) dv = []
    revert dv
    induction n with
    | zero => intro dv; cases dv <;> rfl
    | succ n ih =>
      intro dv
      cases dv with
      | nil => rfl
      | cons v dv => exact ih dv
  | [], _ :: _, _, _, h => by simp at h
  | _ :: _, [], _, _, h => by simp at h
  | m :: ms, v :: vs, n, dv, h => by
    have ih := iovs_app (ms := ms) (vs := vs) (n := n) (dv := dv) (by simpa using h)
    cases m
    · exact ih
    · exact ih
    · exact congrArg (v :: ·) ih
/-- with defaults behind -/
theorem spM_dflt {ms : List Md} {m : List D → FO} {Q : VK} {E : XK} {dd : List D} {dv : List V} (hd : ∀ H, Reps K H dd dv) (h : spM K ms (fun ds => m (ds ++ dd)) vs H Q E) : spM K (ms ++ List.replicate dd.length .fz) m (vs ++ dv) H Q E := by
  obtain ⟨G, B, ds, a, p⟩ := h
  have hl : dv.length = dd.length := (hd G).length
  refine ⟨G, B, ds ++ dd, ⟨a.gb, a.bh, by simp [a.ld], by simp [a.lv, hl], fun i m d v h1 h2 h3 => ?_, fun i j l h1 h2 w1 w2 => ?_⟩, ?_⟩
  · by_cases hi : i < ms.length
    · rw [List.getElem?_append_left hi] at h1
      rw [List.getElem?_append_left (by rw [a.ld]; exact hi)] at h2
      rw [List.getElem?_append_left (by rw [a.lv]; exact hi)] at h3
      exact a.one i m d v h1 h2 h3
    · rw [List.getElem?_append_right (by omega), List.getElem?_replicate] at h1
      rw [List.getElem?_append_right (by rw [a.ld]; omega), a.ld] at h2
      rw [List.getElem?_append_right (by rw [a.lv]; omega), a.lv] at h3
      split at h1
      · cases h1
        obtain ⟨w, x, y⟩ := (hd G).get h2
        rw [h3] at x; cases x
        exact y
      · cases h1
  · have left : ∀ {i : Nat}, (ms ++ List.replicate dd.length Md.fz)[i]? = some Md.io → i < ms.length := fun {i} h => by
      by_cases hi : i < ms.length
      · exact hi
      · rw [List.getElem?_append_right (by omega), List.getElem?_replicate] at h
        split at h <;> cases h
    have li := left h1
    have lj := left h2
    rw [List.getElem?_append_left li] at h1
    rw [List.getElem?_append_left lj] at h2
    rw [List.getElem?_append_left (by rw [a.lv]; exact li)] at w1
    rw [List.getElem?_append_left (by rw [a.lv]; exact lj)] at w2
    exact a.dis i j l h1 h2 w1 w2
  · rw [iovs_app a.lv]
    exact p
def dCall (ms : List Md) (m : List D → FO) (dd : List D) (fs : Env → O (List R)) : Env → O R := fun ρ => (fs ρ).bind fun ρ rs => callM ms (fun ds => m (ds ++ dd)) ρ rs
variable {X : Cx} {k : Nat} {f : Addr} {fd : FuncData} {ps : List Str} {E : L2.St → XK} {x : Str} {p pos : Pos} {e : Expr} {es : List Expr} {t : TA} {fs : Env → O (List R)} {ms : List Md} {m : List D → FO} {ds : List Value} {dv : List V} {dd : List D}
theorem sem_call (hd : ∀ H, Reps X.K H dd dv) (ha : SemA X Wx t fs) : SemE X Wx (tCallG (spM X.K (ms ++ List.replicate dd.length .fz) m) dv (WE Wx) t) (dCall ms m dd fs) := fun L G B H σ ρ Q s p =>
  ha L G B H σ ρ _ s ((Post.bind p).imp fun ρ1 rs G1 B1 H1 _ q vs k => spM_dflt hd (callM_ok k q))
theorem de_call (F : FnG X.prog X.w X.K X.mg X.base k f fd ps (spM X.K (ms ++ List.replicate dd.length .fz) m)) (hr : Room k X.A) (hG : X.A.guards = some []) (tk : Takes X Wx) (hg : Gl X x) (hm : X.mg x = some (.ref f)) (hk : PySem.W.keepIn X.K (.ref f) = true) (hb : Binds X.K fd ps ds) (hd : Vals dv ds) (hdd : ∀ H, Reps X.K H dd dv)
    (ha : DA X Wx (e :: es) t fs) (hdb : (x == ("__debug__" : Str)) = false := by decide) (he : starEach (e :: es) X.env = (false, eval e X.env) :: starEach es X.env := by rfl) (hpl : (backTo pos (starEach es X.env)).any (·.1) = false := by rfl) :
    DE X Wx (.Call (.Name x p) (e :: es) [] pos) (tCallG (spM X.K (ms ++ List.replicate dd.length .fz) m) dv (WE Wx) t) (dCall ms m dd fs) :=
  ⟨pe_callG F hr hG hg hm hk hb hd (fun σ => passAt tk σ) ha.1 hdb he hpl, sem_call hdd ha.2⟩
end
end DN
set_option maxHeartbeats 2000000
namespace DN
open PySem PySem.Spec PyProof.Rows L2
open Evl (Ex)
section
variable {K : PySem.W.Frag} {X : Cx} {Wx : WX} {e a b : Expr} {f h : Env → O R} {pos p : Pos} {ta tb : TE} {tr : TA} {es : List Expr} {fs : Env → O (List R)}
theorem Reps.atI {H : Hp} {ds : List D} {vs : List V} {i : Int} {d : D} (r : Reps K H ds vs) (h : L2.atI ds i = some d) : ∃ v, L2.atI vs i = some v ∧ Rep K H d v := by
  unfold L2.atI at h ⊢
  rw [← r.length] at h
  cases q : ixN vs.length i with
  | none => rw [q] at h; cases h
  | some j => rw [q] at h; exact r.get h
def keyD : D → Option Key
  | .int i => some (.inl i)
  | .str x => some (.inr x)
  | _ => none
theorem keyD_top {G H : Hp} {d : D} {v : V} {k : Key} (t : Top K G H d v) (e : keyD d = some k) : v = kV k := by
  unfold keyD at e
  split at e
  · cases e; exact t.int_inv
  · cases e; exact t.str_inv
  · cases e
def valD (kvs : List (Key × D)) (k : Key) : Option D := (kvs.find? fun kv => decide (kv.1 = k)).map (·.2)
def putD (kvs : List (Key × D)) (k : Key) (d : D) : List (Key × D) := if (kvs.any fun kv => decide (kv.1 = k)) = true then kvs.map (fun kv => if kv.1 = k then (kv.1, d) else kv) else kvs ++ [(k, d)]
theorem RepK.val {H : Hp} {k : Key} : ∀ {kvs : List (Key × D)} {kws : List (Key × V)}, RepK K H kvs kws → (∀ d, valD kvs k = some d → ∃ v, valV kws k = some v ∧ Rep K H d v) ∧ (valD kvs k = none → valV kws k = none)
  | _, _, .nil => ⟨by simp [valD], fun _ => rfl⟩
  | _, _, .cons (k := k0) (d := d0) (v := v0) r t => by
    by_cases h : k0 = k
    · refine ⟨fun d e => ?_, fun e => ?_⟩
      · simp only [valD, List.find?_cons, h, decide_true, Option.map_some, Option.some.injEq] at e
        subst e
        exact ⟨_, valV_pos h, r⟩
      · simp [valD, List.find?_cons, h] at e
    · have ih := RepK.val (k := k) t
      refine ⟨fun d e => ?_, fun e => ?_⟩
      · rw [valV_neg h]
        refine ih.1 d ?_
        simpa [valD, List.find?_cons, h] using e
      · rw [valV_neg h]
        refine ih.2 ?_
        simpa [valD, List.find?_cons, h] using e
theorem RepK.length {H : Hp} : ∀ {kvs : List (Key × D)} {kws : List (Key × V)}, RepK K H kvs kws → kws.length = kvs.length
  | _, _, .nil => rfl
  | _, _, .cons _ t => congrArg (· + 1) (RepK.length t)
theorem RepK.any {H : Hp} {k : Key} : ∀ {kvs : List (Key × D)} {kws : List (Key × V)}, RepK K H kvs kws → (kws.any fun kv => decide (kv.1 = k)) = kvs.any fun kv => decide (kv.1 = k)
  | _, _, .nil => rfl
  | _, _, .cons _ t => by rw [List.any_cons, List.any_cons, RepK.any t]
theorem RepK.app {H : Hp} : ∀ {kvs lvs : List (Key × D)} {kws lws : List (Key × V)}, RepK K H kvs kws → RepK K H lvs lws → RepK K H (kvs ++ lvs) (kws ++ lws)
  | _, _, _, _, .nil, h => h
  | _, _, _, _, .cons r t, h => .cons r (RepK.app t h)
theorem RepK.put {H : Hp} {k : Key} {d : D} {v : V} {kvs : List (Key × D)} {kws : List (Key × V)} (h : RepK K H kvs kws) (r : Rep K H d v) : RepK K H (putD kvs k d) (putK kws k v) := by
  unfold putD putK
  rw [h.any (k := k)]
  split
  · have key : ∀ {kvs : List (Key × D)} {kws : List (Key × V)}, RepK K H kvs kws → RepK K H (kvs.map fun kv => if kv.1 = k then (kv.1, d) else kv) (kws.map fun kv => if kv.1 = k then (kv.1, v) else kv) := by
      intro kvs kws h
      induction kvs generalizing kws with
      | nil => cases h; exact .nil
      | cons p q ih =>
        cases h with
        | @cons k0 d0 v0 _ _ r0 t =>
          rw [List.map_cons, List.map_cons]
          by_cases hk : k0 = k
          · rw [if_pos hk, if_pos hk]; exact .cons r (ih t)
          · rw [if_neg hk, if_neg hk]; exact .cons r0 (ih t)
    exact key h
  · exact h.app (.cons r .nil)
theorem RepK.keys {H : Hp} : ∀ {kvs : List (Key × D)} {kws : List (Key × V)}, RepK K H kvs kws → kws.map (·.1) = kvs.map (·.1)
  | _, _, .nil => rfl
  | _, _, .cons _ t => by rw [List.map_cons, List.map_cons, RepK.keys t]
theorem RepK.isSome {H : Hp} {k : Key} {kvs : List (Key × D)} {kws : List (Key × V)} (r : RepK K H kvs kws) : (valV kws k).isSome = (valD kvs k).isSome := by
  have h := r.val (k := k)
  cases ev : valD kvs k with
  | none => rw [h.2 ev] <;> rfl
  | some d => obtain ⟨w, hw, _⟩ := h.1 d ev; rw [hw] <;> rfl
def rIxD : R2 := fun x y H Q => ∃ a v, x = .ref a ∧ DGet H a y (some v) ∧ Q v H
theorem ix_dict (hu : X.A.units + 1 < cLine) : IxR X rIxD := by
  intro value slice pins s σ H x y v u Q I rx ry ⟨a, z, ex, g, q⟩ hs
  subst ex
  cases rx
  refine tail_any (dict_typeIs I g) PySem.F.slot_dict_getitem.lookup (d_getItem hu I g ry fun w' s3 I3 rw' => ⟨z, H, I3, rw', q⟩) hs
def gIx (x y : D) : Option R := match x, y with
  | .lst ds, .int i => (atI ds i).map .fz
  | .tup ds, .int i => (atI ds i).map .fz
  | .str z, .int i => if z.length ≤ 1000000 then (atI z.cps.toList i).map fun c => .fz (.str ⟨#[c]⟩) else none
  | .dct kvs, k => match keyD k with
    | some k => (valD kvs k).map .fz
    | none => none
  | _, _ => none
def rIxX (K : PySem.W.Frag) : R2 := fun x y H Q => rIx K x y H Q ∨ rIxD x y H Q
theorem ix_any (hu : X.A.units + 1 < cLine) : IxR X (rIxX X.K) := ix_seq.or (ix_dict hu)
theorem s_ix : OpSound K gIx (rIxX K) := by
  intro G H x y v u z Q hG hx hy e q
  unfold gIx at e
  split at e
  · cases hx with
    | lst a r =>
    cases hy
    obtain ⟨d, e1, rfl⟩ := Option.map_eq_some_iff.mp e
    obtain ⟨v, e2, rv⟩ := r.atI e1
    exact .inl (.inl ⟨_, _, _, _, rfl, rfl, a.sql, e2, q v rv⟩)
  · cases hx with
    | tup a r =>
    cases hy
    obtain ⟨d, e1, rfl⟩ := Option.map_eq_some_iff.mp e
    obtain ⟨v, e2, rv⟩ := r.atI e1
    exact .inl (.inr (.inl ⟨_, _, _, _, rfl, rfl, a, e2, q v rv⟩))
  · cases hx
    cases hy
    split at e
    · rename_i hz
      obtain ⟨c, e1, rfl⟩ := Option.map_eq_some_iff.mp e
      exact .inl (.inr (.inr ⟨_, _, c, rfl, rfl, Nat.le_trans hz (by rw [sizeLine_eq]; decide), e1, q _ .str⟩))
    · cases e
  · cases hx with
    | dct a r =>
    split at e
    · rename_i k ek
      obtain ⟨d, e1, rfl⟩ := Option.map_eq_some_iff.mp e
      obtain ⟨v, e2, rv⟩ := (r.val (k := k)).1 d e1
      exact .inr ⟨_, v, rfl, .inl ⟨_, k, a, keyD_top hy ek, e2.symm⟩, q v rv⟩
    · cases e
  · cases e
theorem de_ix (hu : X.A.units + 1 < cLine) (ha : DE X Wx a ta f) (hb : DE X Wx b tb h) (hs : PlainIx b := by first | exact fun _ _ => rfl | (with_unfolding_all exact fun _ _ => rfl)) : DE X Wx (.Subscript a b pos) (tOp (rIxX X.K) ta tb) (dOp gIx f h) :=
  ⟨pe_ix (ix_any hu) ha.1 hb.1 hs, two s_ix ha.2 hb.2⟩
def SemP (X : Cx) (Wx : WX) (t : TO) (fo : Env → O (Option Int)) : Prop := ∀ L G B H σ ρ Q, OkS X.K L G B H σ ρ →
  Post X.K Wx L G B σ (fo ρ) (fun ρ' o G' B' H' => OkS X.K L G' B' H' σ ρ' → Q o H') → t σ H Q
def DP (X : Cx) (Wx : WX) (e : Option Expr) (t : TO) (fo : Env → O (Option Int)) : Prop := PO X e t ∧ SemP X Wx t fo
def dNoPart : Env → O (Option Int) := fun ρ => .ok ρ none
def dPart (f : Env → O R) : Env → O (Option Int) := fun ρ => (dN f ρ).bind fun ρ r => match useR ρ r with
  | some (.int i) => .ok ρ (some i)
  | _ => .un
theorem dp_none : DP X Wx none tNoPart dNoPart := ⟨po_none, fun L G B H σ ρ Q s p => Post.okD p H s⟩
theorem dp_some (ha : DE X Wx a ta f) : DP X Wx (some a) (tPart ta) (dPart f) :=
  ⟨po_some ha.1, fun L G B H σ ρ Q s p => ha.2.n L G B H σ ρ _ s ((Post.bind p).imp fun ρ2 r2 G2 B2 H1 _ q2 v k2 => by
    have s2 := k2.state
    cases u : useR ρ2 r2 with
    | none => simp only [u] at q2; exact q2.elim
    | some d =>
      simp only [u] at q2
      cases d <;> try exact q2.elim
      have t := k2.use u
      cases t
      exact ⟨_, rfl, Post.okD q2 H1 s2⟩)⟩
theorem OkVs.thenP {t : TO} {L : Lent} {G B H : Hp} {σ : L2.St} {ρ : Env} {Q : Option Int → Hp → Prop} {rs : List R} {vs : List V} {fo : Env → O (Option Int)} (k : OkVs X.K L G H σ ρ B rs vs) (hb : SemP X Wx t fo)
    (p : Post X.K Wx L G B σ (fo ρ) (fun ρ' o G' B' H' => OkVs X.K L G' H' σ ρ' B' rs vs → Q o H')) : t σ H Q := by
  obtain ⟨B3, e3, s3, hold⟩ := k.hold
  refine hb L G B3 H σ ρ _ s3 ?_
  cases eh : fo ρ with
  | un => rw [eh] at p; exact p
  | er ρ4 e4 =>
    rw [eh] at p
    intro G' B' H' c d gr s4 oe
    obtain ⟨B5, g5, k5⟩ := hold gr (.nil s4)
    exact p G' B5 H' c d g5 (k5.state k5.length) oe
  | ok ρ4 r4 =>
    rw [eh] at p
    intro G' B' H' gr s4
    obtain ⟨B5, g5, k5⟩ := hold gr (.nil s4)
    rw [List.append_nil, List.append_nil] at k5
    exact p G' B5 H' g5 k5
def cutL {α : Type} (xs : List α) (lo hi : Option Int) : List α := (xs.drop (HT.sIx xs.length 0 lo)).take (HT.sIx xs.length xs.length hi - HT.sIx xs.length 0 lo)
def wholeL (n : Nat) (lo hi : Option Int) : Bool := decide (HT.sIx n 0 lo = 0 ∧ HT.sIx n n hi = n)
def gSl (x : D) (lo hi : Option Int) : Option R := match x with
  | .lst ds => some (.own (.lst (cutL ds lo hi)))
  | .tup ds => if wholeL ds.length lo hi = true then none else some (.own (.tup (cutL ds lo hi)))
  | .str z => if z.length ≤ 1000000 then some (.fz (.str (cutS z lo hi))) else none
  | _ => none
theorem Reps.cut {H : Hp} {ds : List D} {vs : List V} (r : Reps K H ds vs) (lo hi : Option Int) : Reps K H (cutL ds lo hi) (cutV vs lo hi) := by
  unfold cutL cutV
  rw [r.length]
  exact (r.drop _).take _
def rSlA (K : PySem.W.Frag) : V → Option Int → Option Int → Hp → VK → Prop := fun x lo hi H Q => rSlL K x lo hi H Q ∨ rSlT K x lo hi H Q ∨ rSlS x lo hi H Q
theorem sl_any : SlR X (rSlA X.K) := SlR.or sl_list (SlR.or sl_tup sl_str)
theorem s_sl {G H : Hp} {x : D} {v : V} {lo hi : Option Int} {z : R} {Q : VK} (t : Top K G H x v) (e : gSl x lo hi = some z) (q : Res K G H Q z) : rSlA K v lo hi H Q := by
  unfold gSl at e
  split at e
  · cases e
    cases t with
    | lst a r => exact .inl ⟨_, _, rfl, a.sql, fun p hp => q p _ hp (.lst (r.cut lo hi))⟩
  · cases t with
    | tup a r =>
    split at e
    · cases e
    · rename_i hw
      cases e
      refine .inr (.inl ⟨_, _, rfl, a, fun w => hw ?_, fun p hp => q p _ hp (.tup (r.cut lo hi))⟩)
      rw [r.length] at w
      exact decide_eq_true w
  · cases t
    split at e
    · rename_i hz
      cases e
      exact .inr (.inr ⟨_, rfl, million hz, q _ .str⟩)
    · cases e
  · cases e
def dSl (f : Env → O R) (lo hi : Env → O (Option Int)) : Env → O R := fun ρ => (dN f ρ).bind fun ρ r => (lo ρ).bind fun ρ l => (hi ρ).bind fun ρ u => (use1 ρ r).bind fun ρ d => ret ρ (gSl d l u)
theorem de_sl {lo hi : Option Expr} {tl th : TO} {fl fh : Env → O (Option Int)} {p2 : Pos} (ha : DE X Wx a ta f) (hl : DP X Wx lo tl fl) (hh : DP X Wx hi th fh) : DE X Wx (.Subscript a (.Slice lo hi none p2) pos) (tSl (rSlA X.K) ta tl th) (dSl f fl fh) :=
  ⟨pe_slice sl_any ha.1 hl.1 hh.1, fun L G B H σ ρ Q s p => ha.2.n L G B H σ ρ _ s ((Post.bind p).imp fun ρ1 r1 G1 B1 H1 _ q1 v k1 => k1.thenP hl.2 ((Post.bind q1).imp fun ρ2 l G2 B2 H2 _ q2 k2 => k2.thenP hh.2 ((Post.bind q2).imp fun ρ3 u G3 B3 H3 _ q3 k3 => by
    unfold use1 at q3
    cases eu : useR ρ3 r1 with
    | none => simp only [eu] at q3; exact q3.elim
    | some d =>
      simp only [eu] at q3
      obtain ⟨z, ez, rz⟩ := ret_ok k3.state q3
      exact s_sl (k3.use eu) ez rz)))⟩
def gRev : D → Option R
  | .lst ds => some (.own (.lst ds.reverse))
  | .tup ds => some (.own (.tup ds.reverse))
  | _ => none
def flatD : D → Bool
  | .non | .bl _ | .int _ | .str _ => true
  | _ => false
def toV : D → V
  | .bl b => .bl b
  | .int i => .int i
  | .str z => .str z
  | _ => .non
theorem flat_top {G H : Hp} {d : D} {v : V} (t : Top K G H d v) (e : flatD d = true) : v = toV d ∧ flatV v = true := by
  cases t <;> first | exact ⟨rfl, rfl⟩ | exact Bool.noConfusion e
theorem flat_reps {H : Hp} : ∀ {ds : List D} {vs : List V}, Reps K H ds vs → ds.all flatD = true → vs = ds.map toV ∧ vs.all flatV = true
  | _, _, .nil, _ => ⟨rfl, rfl⟩
  | _, _, .cons r t, e => by
    rw [List.all_cons, Bool.and_eq_true] at e
    obtain ⟨h1, h2⟩ := flat_top (r.top (Ex.refl _)) e.1
    obtain ⟨h3, h4⟩ := flat_reps t e.2
    exact ⟨by rw [List.map_cons, ← h1, ← h3], by rw [List.all_cons, h2, h4]; rfl⟩
def inFlat (x : D) (ds : List D) : Option Bool := if (flatD x && ds.all flatD) = true then some (inV (toV x) (ds.map toV)) else none
def inDeep (x : D) (ds : List D) : Option Bool := match py x, pys ds with
  | some p, some ps => if (SeqAt.shaped p && SeqAt.shaped (.list ps)) = true then some (ps.any fun z => PyData.eqv z p) else none
  | _, _ => none
def inD (x y : D) : Option Bool := match y with
  | .lst ds => inDeep x ds
  | .tup ds => inFlat x ds
  | .dct kvs => (keyD x).map fun k => (valD kvs k).isSome
  | .str z => match x with
    | .str c => match c.cps.toList with
      | [n] => some (decide (n ∈ z.cps.toList))
      | _ => none
    | _ => none
  | _ => none
def rInX (K : PySem.W.Frag) (neg : Bool) : R2 := fun x y H Q =>
  (∃ d ds, Dp K H x d ∧ Dp K H y (.list ds) ∧ SeqAt.shaped d = true ∧ SeqAt.shaped (.list ds) = true ∧ Q (.bl (if neg then !(ds.any fun z => PyData.eqv z d) else ds.any fun z => PyData.eqv z d)) H) ∨
  rIn K neg x y H Q ∨ (∃ a o, y = .ref a ∧ DGet H a x o ∧ Q (.bl (if neg then !o.isSome else o.isSome)) H) ∨
  ∃ (c : Nat) (z : Str), x = .str ⟨#[c]⟩ ∧ y = .str z ∧ Q (.bl (if neg then !decide (c ∈ z.cps.toList) else decide (c ∈ z.cps.toList))) H
theorem op_inX (hu : X.A.units + 65 < cLine) : OpR X (compareOp .In) (rInX X.K false) :=
  OpR.or (op_inD hu) (OpR.or op_in_seq (OpR.or (by
    intro pins s σ H x y v u Q I rx ry ⟨a, o, ey, g, q⟩
    subst ey
    cases ry
    exact d_in (Nat.lt_of_le_of_lt (Nat.add_le_add_left (by decide) _) hu) I g rx fun s3 I3 => ⟨.bl o.isSome, H, I3, rfl, q⟩) op_in_sign))
theorem op_notInX (hu : X.A.units + 65 < cLine) : OpR X (compareOp .NotIn) (rInX X.K true) :=
  OpR.or (op_notInD hu) (OpR.or op_notIn_seq (OpR.or (by
    intro pins s σ H x y v u Q I rx ry ⟨a, o, ey, g, q⟩
    subst ey
    cases ry
    exact d_notIn (Nat.lt_of_le_of_lt (Nat.add_le_add_left (by decide) _) hu) I g rx fun s3 I3 => ⟨.bl (!o.isSome), H, I3, rfl, q⟩) op_notIn_sign))
def gIn (x y : D) : Option R := (inD x y).map fun b => .fz (.bl b)
def gNotIn (x y : D) : Option R := (inD x y).map fun b => .fz (.bl (!b))
theorem in_ok {G H : Hp} {x y : D} {v u : V} {b : Bool} {Q : VK} (neg : Bool) (hG : Ex G H) (tx : Top K G H x v) (ty : Top K G H y u) (e : inD x y = some b) (q : Q (.bl (if neg then !b else b)) H) : rInX K neg v u H Q := by
  unfold inD at e
  split at e
  · unfold inDeep at e
    split at e
    · rename_i p ps e1 e2
      split at e
      · rename_i hs
        cases e
        have hs' := Bool.and_eq_true_iff.mp hs
        refine .inl ⟨p, ps, (tx.rep hG).dp e1, (ty.rep hG).dp ?_, hs'.1, hs'.2, q⟩
        unfold py
        rw [e2]
        rfl
      · cases e
    · cases e
  · unfold inFlat at e
    split at e
    · rename_i hs
      cases e
      have hs' := Bool.and_eq_true_iff.mp hs
      obtain ⟨h1, h2⟩ := flat_top tx hs'.1
      cases ty with
      | tup a r =>
      obtain ⟨h3, h4⟩ := flat_reps r hs'.2
      exact .inr (.inl ⟨_, _, rfl, .inr a, h2, h4, by rw [h1, h3]; exact q⟩)
    · cases e
  · cases ty with
    | dct a r =>
    obtain ⟨k, ek, rfl⟩ := Option.map_eq_some_iff.mp e
    have hk := keyD_top tx ek
    refine .inr (.inr (.inl ⟨_, _, rfl, .inl ⟨_, k, a, hk, rfl⟩, ?_⟩))
    rw [r.isSome]
    exact q
  · split at e
    · rename_i z c
      split at e
      · rename_i n en
        cases e
        cases tx
        cases ty
        refine .inr (.inr (.inr ⟨n, _, ?_, rfl, q⟩))
        congr 1
        cases c with
        | mk cps => cases cps with
          | mk l => simp only at en; subst en; rfl
      · cases e
    · cases e
  · cases e
theorem s_in : OpSound K gIn (rInX K false) := by
  intro G H x y v u z Q hG tx ty e q
  obtain ⟨b, eb, rfl⟩ := Option.map_eq_some_iff.mp e
  exact in_ok false hG tx ty eb (q _ .bl)
theorem s_notIn : OpSound K gNotIn (rInX K true) := by
  intro G H x y v u z Q hG tx ty e q
  obtain ⟨b, eb, rfl⟩ := Option.map_eq_some_iff.mp e
  exact in_ok true hG tx ty eb (q _ .bl)
end
end DN
set_option maxHeartbeats 2000000
namespace DN
open PySem PySem.Spec PyProof.Rows L2
open Evl (Ex)
section
variable {K : PySem.W.Frag} {X : Cx} {Wx : WX} {e a b c : Expr} {f h g3 : Env → O R} {pos p : Pos} {ta tb tc : TE} {tr : TA} {es : List Expr} {fs : Env → O (List R)}
def truD : D → Option Bool
  | .non => some false
  | .bl b => some b
  | .int i => some (i != 0)
  | .lst ds => some (!ds.isEmpty)
  | .tup ds => some (!ds.isEmpty)
  | .str z => if z.length ≤ 1000000 then some ((z.length : Int) != 0) else none
  | _ => none
theorem emp_eq {H : Hp} {ds : List D} {vs : List V} (r : Reps K H ds vs) : (!ds.isEmpty) = !vs.isEmpty := by cases r <;> rfl
theorem tru_top {G H : Hp} {d : D} {v : V} {k : Bool} (t : Top K G H d v) (e : truD d = some k) : TruV K v H k := by
  unfold truD at e
  split at e
  · cases e; cases t; exact rfl
  · cases e; cases t; exact rfl
  · cases e; cases t; exact rfl
  · cases e
    cases t with
    | lst a r => exact .inl ⟨_, a.sql, emp_eq r⟩
  · cases e
    cases t with
    | tup a r => exact .inr (.inl ⟨_, a, emp_eq r⟩)
  · split at e
    · rename_i hz
      cases e
      cases t
      exact ⟨million hz, rfl⟩
    · cases e
  · cases e
def dTru (f : Env → O R) : Env → O Bool := fun ρ => (dN f ρ).bind fun ρ r => match (useR ρ r).bind truD with
  | some b => .ok ρ b
  | none => .un
theorem dt_truth (ha : DE X Wx a ta f) (he : ∀ whole, isTrue a X.env whole = (do let v ← whole; standAt a.pos; holding [v] (truthy v)) := by intro _; rfl) :
    DT X Wx a (fun σ H Q => ta σ H fun x H' => ∃ k, TruV X.K x H' k ∧ Q k H') (dTru f) :=
  ⟨pt_truth ha.1 he, fun L G B H σ ρ Q s p => ha.2.n L G B H σ ρ _ s ((Post.bind p).imp fun ρ2 r2 G2 B2 H1 _ q2 v k2 => by
    have s2 := k2.state
    cases u : useR ρ2 r2 with
    | none => simp only [u, Option.bind_none] at q2; exact q2.elim
    | some d =>
      simp only [u, Option.bind_some] at q2
      cases et : truD d with
      | none => simp only [et] at q2; exact q2.elim
      | some k =>
        simp only [et] at q2
        exact ⟨k, tru_top (k2.use u) et, Post.okD q2 H1 s2⟩)⟩
def dChain (g g' : D → D → Option R) (f h c : Env → O R) : Env → O R := fun ρ => (dN f ρ).bind fun ρ r1 => (dN h ρ).bind fun ρ r2 => match useR ρ r1, useR ρ r2 with
  | some x, some y => match g x y with
    | some (.fz (.bl true)) => (dN c ρ).bind fun ρ r3 => match useR ρ r2, useR ρ r3 with
      | some y, some z => ret ρ (g' y z)
      | _, _ => .un
    | some (.fz (.bl false)) => .ok ρ (.fz (.bl false))
    | _ => .un
  | _, _ => .un
theorem sem_chain {g g' : D → D → Option R} {r r' : R2} (hg : OpSound X.K g r) (hg' : OpSound X.K g' r') (ha : SemE X Wx ta f) (hb : SemE X Wx tb h) (hc : SemE X Wx tc g3) : SemE X Wx (tChain r r' ta tb tc) (dChain g g' f h g3) := fun L G B H σ ρ Q s p =>
  ha.n L G B H σ ρ _ s ((Post.bind p).imp fun ρ1 r1 G1 B1 H1 _ q1 v k1 => k1.thenE hb.n ((Post.bind q1).imp fun ρ2 r2 G2 B2 H2 _ q2 w k2 => by
    have s2 := k2.state
    cases u1 : useR ρ2 r1 with
    | none => simp only [u1] at q2; exact q2.elim
    | some x =>
      cases u2 : useR ρ2 r2 with
      | none => simp only [u1, u2] at q2; exact q2.elim
      | some y =>
        simp only [u1, u2] at q2
        cases ez : g x y with
        | none => rw [ez] at q2; exact q2.elim
        | some z =>
          rw [ez] at q2
          cases z with
          | own d => exact q2.elim
          | bor i => exact q2.elim
          | tp qs => exact q2.elim
          | fz d =>
            cases d <;> try exact q2.elim
            rename_i b
            refine hg G2 H2 x y v w (.fz (.bl b)) _ s2.gh (k2.use u1) (k2.tail.use u2) ez fun v0 rv => ?_
            cases rv
            cases b with
            | false => exact ⟨false, rfl, by rw [if_neg Bool.false_ne_true]; exact Post.okD q2 H2 _ (.fz .bl (.nil s2))⟩
            | true =>
              refine ⟨true, rfl, ?_⟩
              rw [if_pos rfl]
              refine k2.tail.thenE hc.n ((Post.bind q2).imp fun ρ3 r3 G3 B3 H3 _ q3 w3 k3 => ?_)
              have s3 := k3.state
              cases u3 : useR ρ3 r2 with
              | none => simp only [u3] at q3; exact q3.elim
              | some y' =>
                cases u4 : useR ρ3 r3 with
                | none => simp only [u3, u4] at q3; exact q3.elim
                | some z' =>
                  simp only [u3, u4] at q3
                  obtain ⟨zz, ezz, rzz⟩ := ret_ok s3 q3
                  exact hg' G3 H3 y' z' w w3 zz Q s3.gh (k3.use u3) (k3.tail.use u4) ezz rzz))
theorem dt_chain {op op' : CmpOp} {g g' : D → D → Option R} {r r' : R2} (ho : OpR X (compareOp op) r) (ho' : OpR X (compareOp op') r') (hg : OpSound X.K g r) (hg' : OpSound X.K g' r') (ha : DE X Wx a ta f) (hb : DE X Wx b tb h) (hc : DE X Wx c tc g3)
    (hm : lastMarks [op, op'] [b, c] = false := by with_unfolding_all rfl) : DT X Wx (.Compare a [op, op'] [b, c] pos) (tTest (tChain r r' ta tb tc)) (dTest (dChain g g' f h g3)) :=
  ⟨pt_chain ho ho' ha.1 hb.1 hc.1 hm, sem_test (sem_chain hg hg' ha.2 hb.2 hc.2)⟩
def intsD : List D → Option (List Int)
  | [] => some []
  | .int i :: r => (intsD r).map (i :: ·)
  | _ => none
theorem intsD_eq : ∀ {ds : List D} {ns : List Int}, intsD ds = some ns → ds = ns.map D.int
  | [], _, e => by cases e; rfl
  | .int i :: r, ns, e => by
    unfold intsD at e
    obtain ⟨m, h, rfl⟩ := Option.map_eq_some_iff.mp e
    rw [intsD_eq h]
    rfl
  | .non :: _, _, e | .bl _ :: _, _, e | .str _ :: _, _, e | .ref _ :: _, _, e | .ty _ :: _, _, e | .lst _ :: _, _, e | .tup _ :: _, _, e | .dct _ :: _, _, e | .ins _ _ :: _, _, e => by simp [intsD] at e
def blsD : List D → Option (List Bool)
  | [] => some []
  | .bl i :: r => (blsD r).map (i :: ·)
  | _ => none
theorem blsD_eq : ∀ {ds : List D} {ns : List Bool}, blsD ds = some ns → ds = ns.map D.bl
  | [], _, e => by cases e; rfl
  | .bl i :: r, ns, e => by
    unfold blsD at e
    obtain ⟨m, h, rfl⟩ := Option.map_eq_some_iff.mp e
    rw [blsD_eq h]
    rfl
  | .non :: _, _, e | .int _ :: _, _, e | .str _ :: _, _, e | .ref _ :: _, _, e | .ty _ :: _, _, e | .lst _ :: _, _, e | .tup _ :: _, _, e | .dct _ :: _, _, e | .ins _ _ :: _, _, e => by simp [blsD] at e
theorem Reps.bls_inv {H : Hp} : ∀ {ns : List Bool} {vs : List V}, Reps K H (ns.map D.bl) vs → vs = ns.map V.bl
  | [], _, h => by cases h; rfl
  | n :: r, _, h => by
    cases h with
    | cons a b =>
      cases a
      rw [Reps.bls_inv b]
      rfl
theorem Tops.one_inv {G H : Hp} {d : D} {vs : List V} (t : Tops K G H [d] vs) : ∃ v, vs = [v] ∧ Top K G H d v := by
  cases t with
  | cons a r => cases r; exact ⟨_, rfl, a⟩
theorem Tops.two_inv {G H : Hp} {d d' : D} {vs : List V} (t : Tops K G H [d, d'] vs) : ∃ v v', vs = [v, v'] ∧ Top K G H d v ∧ Top K G H d' v' := by
  cases t with
  | cons a r => cases r with
    | cons a' r => cases r; exact ⟨_, _, rfl, a, a'⟩
def orC (a b : List D → Option R) (ds : List D) : Option R := match a ds with
  | some z => some z
  | none => b ds
theorem CallSound.or {g g' : List D → Option R} {r r' : List V → Hp → VK → Prop} (h : CallSound K g r) (h' : CallSound K g' r') : CallSound K (orC g g') fun xs H Q => r xs H Q ∨ r' xs H Q := by
  intro G H ds vs z Q hG t e q
  unfold orC at e
  split at e
  · rename_i z' ez
    cases e
    exact .inl (h G H ds vs z Q hG t ez q)
  · exact .inr (h' G H ds vs z Q hG t e q)
/-- len -/
def gLen : List D → Option R
  | [.lst ds] => some (.fz (.int ds.length))
  | [.tup ds] => some (.fz (.int ds.length))
  | [.dct kvs] => some (.fz (.int kvs.length))
  | [.str z] => if z.length ≤ 1000000 then some (.fz (.int z.length)) else none
  | _ => none
def rLen (K : PySem.W.Frag) : List V → Hp → VK → Prop := fun xs H Q => (∃ x n, xs = [x] ∧ LenV K x H n ∧ Q (.int n) H) ∨ ∃ a kvs, xs = [V.ref a] ∧ Rd H a (.dK kvs) ∧ Q (.int kvs.length) H
theorem c_len : CallR X (.builtin "len") (rLen X.K) := CallR.or call_len (by
  intro pins s σ H xs us Q I r ⟨a, kvs, ex, ha, q⟩
  subst ex
  rw [Vals.ref1 r]
  exact d_len I ha fun t s' I' => ⟨.int kvs.length, H, I', ⟨t, rfl⟩, q⟩)
theorem s_len : CallSound K gLen (rLen K) := by
  intro G H ds vs z Q hG t e q
  unfold gLen at e
  split at e
  · cases e
    obtain ⟨v, rfl, t1⟩ := t.one_inv
    cases t1 with
    | lst a r => exact .inl ⟨_, _, rfl, .inl ⟨_, a.sql, rfl⟩, by rw [r.length]; exact q _ .int⟩
  · cases e
    obtain ⟨v, rfl, t1⟩ := t.one_inv
    cases t1 with
    | tup a r => exact .inl ⟨_, _, rfl, .inr ⟨_, a, rfl⟩, by rw [r.length]; exact q _ .int⟩
  · cases e
    obtain ⟨v, rfl, t1⟩ := t.one_inv
    cases t1 with
    | dct a r => exact .inr ⟨_, _, rfl, a, by rw [r.length]; exact q _ .int⟩
  · obtain ⟨v, rfl, t1⟩ := t.one_inv
    split at e
    · rename_i hz
      cases e
      cases t1
      exact .inl ⟨_, _, rfl, ⟨million hz, rfl⟩, q _ .int⟩
    · cases e
  · cases e
/-- abs, int -/
def gAbs : List D → Option R
  | [.int i] => some (.fz (.int (if i < 0 then -i else i)))
  | _ => none
theorem s_abs : CallSound K gAbs (fun xs H Q => ∃ i, xs = [.int i] ∧ Q (.int (if i < 0 then -i else i)) H) := by
  intro G H ds vs z Q hG t e q
  unfold gAbs at e
  split at e
  · cases e
    obtain ⟨v, rfl, t1⟩ := t.one_inv
    cases t1
    exact ⟨_, rfl, q _ .int⟩
  · cases e
def gInt : List D → Option R
  | [.int i] => some (.fz (.int i))
  | [.bl b] => some (.fz (.int (if b then 1 else 0)))
  | _ => none
theorem s_int : CallSound K gInt (fun xs H Q => (∃ i, xs = [.int i] ∧ Q (.int i) H) ∨ ∃ k, xs = [.bl k] ∧ Q (.int (if k then 1 else 0)) H) := by
  intro G H ds vs z Q hG t e q
  unfold gInt at e
  split at e
  · cases e
    obtain ⟨v, rfl, t1⟩ := t.one_inv
    cases t1
    exact .inl ⟨_, rfl, q _ .int⟩
  · cases e
    obtain ⟨v, rfl, t1⟩ := t.one_inv
    cases t1
    exact .inr ⟨_, rfl, q _ .int⟩
  · cases e
/-- max, min -/
def maxI (n : Int) (ns : List Int) : Int := ns.foldl (fun a b => if a < b then b else a) n
def minI (n : Int) (ns : List Int) : Int := ns.foldl (fun a b => if b < a then b else a) n
theorem maxI_spec : ∀ (ns : List Int) (n : Int), maxI n ns ∈ n :: ns ∧ ∀ y ∈ n :: ns, y ≤ maxI n ns
  | [], n => ⟨by simp [maxI], fun y hy => by simp at hy; subst hy; exact Int.le_refl _⟩
  | m :: ns, n => by
    have e : maxI n (m :: ns) = maxI (if n < m then m else n) ns := rfl
    obtain ⟨h1, h2⟩ := maxI_spec ns (if n < m then m else n)
    rw [e]
    refine ⟨?_, fun y hy => ?_⟩
    · rcases List.mem_cons.mp h1 with q | q
      · rw [q]; split <;> simp
      · simp [q]
    · have hk : n ≤ (if n < m then m else n) ∧ m ≤ (if n < m then m else n) := by split <;> omega
      have h0 := h2 _ (List.mem_cons.mpr (.inl rfl))
      rcases List.mem_cons.mp hy with q | q
      · rw [q]; exact Int.le_trans hk.1 h0
      · rcases List.mem_cons.mp q with q | q
        · rw [q]; exact Int.le_trans hk.2 h0
        · exact h2 y (List.mem_cons.mpr (.inr q))
theorem minI_spec : ∀ (ns : List Int) (n : Int), minI n ns ∈ n :: ns ∧ ∀ y ∈ n :: ns, minI n ns ≤ y
  | [], n => ⟨by simp [minI], fun y hy => by simp at hy; subst hy; exact Int.le_refl _⟩
  | m :: ns, n => by
    have e : minI n (m :: ns) = minI (if m < n then m else n) ns := rfl
    obtain ⟨h1, h2⟩ := minI_spec ns (if m < n then m else n)
    rw [e]
    refine ⟨?_, fun y hy => ?_⟩
    · rcases List.mem_cons.mp h1 with q | q
      · rw [q]; split <;> simp
      · simp [q]
    · have hk : (if m < n then m else n) ≤ n ∧ (if m < n then m else n) ≤ m := by split <;> omega
      have h0 := h2 _ (List.mem_cons.mpr (.inl rfl))
      rcases List.mem_cons.mp hy with q | q
      · rw [q]; exact Int.le_trans h0 hk.1
      · rcases List.mem_cons.mp q with q | q
        · rw [q]; exact Int.le_trans h0 hk.2
        · exact h2 y (List.mem_cons.mpr (.inr q))
def gMax : List D → Option R
  | [.int i, .int j] => some (.fz (.int (if j > i then j else i)))
  | [.lst ds] => match intsD ds with
    | some (n :: ns) => some (.fz (.int (maxI n ns)))
    | _ => none
  | _ => none
def gMin : List D → Option R
  | [.int i, .int j] => some (.fz (.int (if j < i then j else i)))
  | [.lst ds] => match intsD ds with
    | some (n :: ns) => some (.fz (.int (minI n ns)))
    | _ => none
  | _ => none
def rMaxA (K : PySem.W.Frag) : List V → Hp → VK → Prop := fun xs H Q => (∃ i j, xs = [.int i, .int j] ∧ Q (.int (if j > i then j else i)) H) ∨ rMax K xs H Q
def rMinA (K : PySem.W.Frag) : List V → Hp → VK → Prop := fun xs H Q => (∃ i j, xs = [.int i, .int j] ∧ Q (.int (if j < i then j else i)) H) ∨ rMin K xs H Q
theorem c_max (hc : X.calm = true) : CallR X (.builtin "max") (rMaxA X.K) := CallR.or (call_max2 hc) (cr_max hc)
theorem c_min (hc : X.calm = true) : CallR X (.builtin "min") (rMinA X.K) := CallR.or (call_min2 hc) (cr_min hc)
theorem s_max : CallSound K gMax (rMaxA K) := by
  intro G H ds vs z Q hG t e q
  unfold gMax at e
  split at e
  · cases e
    obtain ⟨v, v', rfl, t1, t'⟩ := t.two_inv
    cases t1
    cases t'
    exact .inl ⟨_, _, rfl, q _ .int⟩
  · obtain ⟨v, rfl, t1⟩ := t.one_inv
    split at e
    · rename_i n ns en
      cases e
      cases t1 with
      | lst a r =>
      rw [intsD_eq en] at r
      have ev := r.ints_inv
      subst ev
      refine .inr ⟨_, _, rfl, a.sql, by simp, fun m h1 h2 => ?_⟩
      obtain ⟨k1, k2⟩ := maxI_spec ns n
      have : m = maxI n ns := Int.le_antisymm (k2 m h1) (h2 _ k1)
      rw [this]
      exact q _ .int
    · cases e
  · cases e
theorem s_min : CallSound K gMin (rMinA K) := by
  intro G H ds vs z Q hG t e q
  unfold gMin at e
  split at e
  · cases e
    obtain ⟨v, v', rfl, t1, t'⟩ := t.two_inv
    cases t1
    cases t'
    exact .inl ⟨_, _, rfl, q _ .int⟩
  · obtain ⟨v, rfl, t1⟩ := t.one_inv
    split at e
    · rename_i n ns en
      cases e
      cases t1 with
      | lst a r =>
      rw [intsD_eq en] at r
      have ev := r.ints_inv
      subst ev
      refine .inr ⟨_, _, rfl, a.sql, by simp, fun m h1 h2 => ?_⟩
      obtain ⟨k1, k2⟩ := minI_spec ns n
      have : m = minI n ns := Int.le_antisymm (h2 _ k1) (k2 m h1)
      rw [this]
      exact q _ .int
    · cases e
  · cases e
def gSum : List D → Option R
  | [.lst ds] => (intsD ds).map fun ns => .fz (.int ns.sum)
  | _ => none
theorem s_sum : CallSound K gSum (rSum K) := by
  intro G H ds vs z Q hG t e q
  unfold gSum at e
  split at e
  · obtain ⟨v, rfl, t1⟩ := t.one_inv
    obtain ⟨ns, en, rfl⟩ := Option.map_eq_some_iff.mp e
    cases t1 with
    | lst a r =>
    rw [intsD_eq en] at r
    have ev := r.ints_inv
    subst ev
    exact ⟨_, _, rfl, a.sql, q _ .int⟩
  · cases e
def gAll : List D → Option R
  | [.lst ds] => (blsD ds).map fun ns => .fz (.bl (ns.all id))
  | _ => none
def gAny : List D → Option R
  | [.lst ds] => (blsD ds).map fun ns => .fz (.bl (ns.any id))
  | _ => none
theorem s_all : CallSound K gAll (rAll K) := by
  intro G H ds vs z Q hG t e q
  unfold gAll at e
  split at e
  · obtain ⟨v, rfl, t1⟩ := t.one_inv
    obtain ⟨ns, en, rfl⟩ := Option.map_eq_some_iff.mp e
    cases t1 with
    | lst a r =>
    rw [blsD_eq en] at r
    have ev := r.bls_inv
    subst ev
    exact ⟨_, _, rfl, a.sql, q _ .bl⟩
  · cases e
/-- sorted -/
def insI (n : Int) : List Int → List Int
  | [] => [n]
  | m :: r => if n ≤ m then n :: m :: r else m :: insI n r
def sortI : List Int → List Int
  | [] => []
  | n :: r => insI n (sortI r)
theorem insI_perm (n : Int) : ∀ l : List Int, (insI n l).Perm (n :: l)
  | [] => .refl _
  | m :: r => by
    unfold insI
    split
    · exact .refl _
    · exact ((insI_perm n r).cons m).trans (List.Perm.swap n m r)
theorem sortI_perm : ∀ l : List Int, (sortI l).Perm l
  | [] => .refl _
  | n :: r => (insI_perm n (sortI r)).trans ((sortI_perm r).cons n)
theorem insI_srt (n : Int) : ∀ l : List Int, l.Pairwise (· ≤ ·) → (insI n l).Pairwise (· ≤ ·)
  | [], _ => List.pairwise_singleton _ _
  | m :: r, h => by
    obtain ⟨h1, h2⟩ := List.pairwise_cons.mp h
    unfold insI
    split
    · rename_i hn
      refine List.pairwise_cons.mpr ⟨fun y hy => ?_, h⟩
      rcases List.mem_cons.mp hy with q | q
      · rw [q]; exact hn
      · exact Int.le_trans hn (h1 y q)
    · rename_i hn
      refine List.pairwise_cons.mpr ⟨fun y hy => ?_, insI_srt n r h2⟩
      rcases List.mem_cons.mp ((insI_perm n r).mem_iff.mp hy) with q | q
      · rw [q]; omega
      · exact h1 y q
theorem sortI_srt : ∀ l : List Int, (sortI l).Pairwise (· ≤ ·)
  | [] => .nil
  | n :: r => insI_srt n _ (sortI_srt r)
theorem srt_uniq : ∀ {l m : List Int}, l.Perm m → l.Pairwise (· ≤ ·) → m.Pairwise (· ≤ ·) → l = m
  | [], m, p, _, _ => (List.nil_perm.mp p).symm
  | a :: l, [], p, _, _ => absurd (List.perm_nil.mp p) (by simp)
  | a :: l, b :: m, p, h, k => by
    obtain ⟨h1, h2⟩ := List.pairwise_cons.mp h
    obtain ⟨k1, k2⟩ := List.pairwise_cons.mp k
    have hab : a = b := by
      have ha : a ∈ b :: m := p.mem_iff.mp (List.mem_cons.mpr (.inl rfl))
      have hb : b ∈ a :: l := p.mem_iff.mpr (List.mem_cons.mpr (.inl rfl))
      rcases List.mem_cons.mp ha with q | q
      · exact q
      · rcases List.mem_cons.mp hb with r | r
        · exact r.symm
        · exact Int.le_antisymm (h1 b r) (k1 a q)
    subst hab
    rw [srt_uniq ((List.perm_cons a).mp p) h2 k2]
theorem sortI_uniq {l m : List Int} (p : m.Perm l) (h : m.Pairwise (· ≤ ·)) : m = sortI l := srt_uniq (p.trans (sortI_perm l).symm) h (sortI_srt l)
def keysI : List (Key × D) → Option (List Int)
  | [] => some []
  | (.inl i, _) :: r => (keysI r).map (i :: ·)
  | _ => none
theorem keysI_eq : ∀ {kvs : List (Key × D)} {ks : List Int}, keysI kvs = some ks → kvs.map (·.1) = ks.map Sum.inl
  | [], _, e => by cases e; rfl
  | (.inl i, d) :: r, ns, e => by
    unfold keysI at e
    obtain ⟨m, h, rfl⟩ := Option.map_eq_some_iff.mp e
    rw [List.map_cons, keysI_eq h]
    rfl
  | (.inr _, _) :: _, _, e => by simp [keysI] at e
def gSorted : List D → Option R
  | [.lst ds] => (intsD ds).map fun ns => .own (.lst ((sortI ns).map .int))
  | [.dct kvs] => match keysI kvs with
    | some ks => if ks.length < 64 then some (.own (.lst ((sortI ks).map .int))) else none
    | none => none
  | _ => none
def rSrt (K : PySem.W.Frag) : List V → Hp → VK → Prop := fun xs H Q => rSortedI K xs H Q ∨ ∃ (a : Addr) (kvs : List (Key × V)) (ks : List Int), xs = [.ref a] ∧ Rd H a (.dK kvs) ∧ kvs.map (·.1) = ks.map Sum.inl ∧ ks.length < 64 ∧
    ∀ (ys : List Int) (p : Addr), ys.Perm ks → ys.Pairwise (· ≤ ·) → H p = none → Q (.ref p) (upd H p (.lst (ys.map V.int)))
theorem c_sorted (hc : X.calm = true) : CallR X (.builtin "sorted") (rSrt X.K) := CallR.or cr_sortedI (call_sortedDI hc)
theorem s_sorted : CallSound K gSorted (rSrt K) := by
  intro G H ds vs z Q hG t e q
  unfold gSorted at e
  split at e
  · obtain ⟨v, rfl, t1⟩ := t.one_inv
    obtain ⟨ns, en, rfl⟩ := Option.map_eq_some_iff.mp e
    cases t1 with
    | lst a r =>
    rw [intsD_eq en] at r
    have ev := r.ints_inv
    subst ev
    exact .inl ⟨_, _, rfl, a.sql, fun ms p h1 h2 hp => by rw [sortI_uniq h1 h2]; exact q p _ hp (.lst (Reps.ints _))⟩
  · obtain ⟨v, rfl, t1⟩ := t.one_inv
    split at e
    · rename_i ks ek
      split at e
      · rename_i hl
        cases e
        cases t1 with
        | dct a r => exact .inr ⟨_, _, ks, rfl, a, by rw [r.keys, keysI_eq ek], hl, fun ms p h1 h2 hp => by rw [sortI_uniq h1 h2]; exact q p _ hp (.lst (Reps.ints _))⟩
      · cases e
    · cases e
  · cases e
/-- list, tuple -/
def keyV : Key → D
  | .inl i => .int i
  | .inr x => .str x
def gList : List D → Option R
  | [.lst ds] => some (.own (.lst ds))
  | [.tup ds] => some (.own (.lst ds))
  | [.dct kvs] => some (.own (.lst (kvs.map fun kv => keyV kv.1)))
  | _ => none
def gTuple : List D → Option R
  | [.lst ds] => some (.own (.tup ds))
  | _ => none
end
end DN
set_option maxHeartbeats 2000000
namespace DN
open PySem PySem.Spec PyProof.Rows L2
open Evl (Ex)
section
variable {K : PySem.W.Frag} {X : Cx} {Wx : WX} {e a b c : Expr} {f h g3 : Env → O R} {pos p : Pos} {ta tb tc : TE} {tr : TA} {es : List Expr} {fs : Env → O (List R)}
def dE (f : Env → O R) : Env → O R := fun ρ => (f ρ).bind fun ρ r => (esc ρ r).bind fun ρ d => .ok ρ (.fz d)
theorem SemE.froz {t : TE} (ha : SemE X Wx t f) : SemE X Wx t (dE f) := fun L G B H σ ρ Q s p =>
  ha L G B H σ ρ _ s ((Post.bind p).imp fun ρ1 r1 G1 B1 H1 _ q v k => by
    obtain ⟨ρ2, d, G2, B2, _, g2, k2, q2⟩ := k.escP (Post.bind q)
    exact Post.okD q2 _ v k2)
theorem OkS.mut {L : Lent} {G B H : Hp} {σ : L2.St} {ρ : Env} {j : Nat} {l : Addr} {d d' : D} {o' : HO} (s : OkS K L G B H σ ρ) (hj : ρ[j]? = some (.own d)) (h1 : σ[j]? = some (some (.ref l))) (r : RepO K G d' o') :
    OkS K L G B (upd H l o') σ (ρ.set j (.own d')) := by
  obtain ⟨l', o, h1', h2, h3, h4⟩ := s.ow j d hj
  rw [h1] at h1'
  cases h1'
  have hg : G l = none := none_of_ex s.gb h2
  have t := s.takeSlot hj h1 h2 h3
  have w := t.rewrite (o' := o') upd_same hg (s.lb.nl h2)
  have eu : upd (upd B l o) l o' = upd B l o' := by
    funext b
    by_cases hb : b = l
    · subst hb; rw [upd_same, upd_same]
    · rw [upd_ne hb, upd_ne hb, upd_ne hb]
  rw [eu] at w
  have q := w.putSlot hg (s.lb.nl h2) h2 r h1
  rw [List.set_set] at q
  exact q
theorem OkVs.mut {L : Lent} {G B H : Hp} {σ : L2.St} {ρ : Env} {j : Nat} {l : Addr} {d d' : D} {o' : HO} {rs : List R} {vs : List V} (k : OkVs K L G H σ ρ B rs vs) (hn : ∀ r ∈ rs, ∃ x, r = R.fz x) (hj : ρ[j]? = some (.own d)) (h1 : σ[j]? = some (some (.ref l))) (r : RepO K G d' o') :
    OkVs K L G (upd H l o') σ (ρ.set j (.own d')) B rs vs := by
  induction k with
  | nil s => exact .nil (s.mut hj h1 r)
  | fz a _ ih => exact .fz a (ih (fun x hx => hn x (List.mem_cons_of_mem _ hx)))
  | bor _ _ _ => obtain ⟨x, hx⟩ := hn _ List.mem_cons_self; cases hx
  | own _ _ _ _ _ _ => obtain ⟨x, hx⟩ := hn _ List.mem_cons_self; cases hx
  | tp _ _ _ _ _ _ => obtain ⟨x, hx⟩ := hn _ List.mem_cons_self; cases hx
def MutSound (K : PySem.W.Frag) (g : D → List D → Option (D × D)) (r : V → List V → Hp → VK → Prop) : Prop := ∀ G H l o d ds d' y vs Q, Ex G H → RepO K G d o → H l = some o → Tops K G H ds vs → Reps K G ds vs → g d ds = some (d', y) →
  (∀ o' v, RepO K G d' o' → Rep K G y v → Q v (upd H l o')) → r (.ref l) vs H Q
def isLst : D → Bool
  | .lst _ => true
  | _ => false
def dBM (j : Nat) (okT : D → Bool) (g : D → List D → Option (D × D)) (fs : Env → O (List R)) : Env → O R := fun ρ => match ρ[j]? with
  | some (.own d0) => if okT d0 = true then (fs ρ).bind fun ρ rs => (escs ρ rs).bind fun ρ ds => match ρ[j]? with
      | some (.own d) => match g d ds with
        | some (d', y) => .ok (ρ.set j (.own d')) (.fz y)
        | none => .un
      | _ => .un
    else .un
  | _ => .un
def TyOk (K : PySem.W.Frag) (T : String) (okT : D → Bool) : Prop := ∀ G H l d o, RepO K G d o → H l = some o → okT d = true → tyV K T (.ref l) H
theorem ty_lst : TyOk K "list" isLst := by
  intro G H l d o r hl e
  cases r <;> first | exact Bool.noConfusion e | skip
  exact .inl ⟨rfl, _, .inl (.inl hl)⟩
theorem sem_bm {T : String} {okT : D → Bool} {g : D → List D → Option (D × D)} {r : V → List V → Hp → VK → Prop} {j : Nat} (hT : TyOk X.K T okT) (hg : MutSound X.K g r) (ha : SemA X Wx tr fs) : SemE X Wx (tBM X.K T r (tVar j) tr) (dBM j okT g fs) := fun L G B H σ ρ Q s p => by
  unfold dBM at p
  cases e0 : ρ[j]? with
  | none => simp only [e0] at p; exact p.elim
  | some q0 =>
    cases q0 with
    | un => simp only [e0] at p; exact p.elim
    | fz _ => simp only [e0] at p; exact p.elim
    | ln _ => simp only [e0] at p; exact p.elim
    | own d0 =>
      simp only [e0] at p
      obtain ⟨l, o, h1, h2, h3, h4⟩ := s.ow j d0 e0
      by_cases ht : okT d0 = true
      · rw [if_pos ht] at p
        refine ⟨_, h1, hT G H l d0 o h4 h3 ht, ha L G B H σ ρ _ s ((Post.bind p).imp fun ρ1 r1 G1 B1 H1 _ q vs k => ?_)⟩
        obtain ⟨ρ2, ds, G2, B2, _, g2, s2, rp, q2⟩ := k.escsP (Post.bind q)
        cases e1 : ρ2[j]? with
        | none => simp only [e1] at q2; exact q2.elim
        | some q1 =>
          cases q1 with
          | un => simp only [e1] at q2; exact q2.elim
          | fz _ => simp only [e1] at q2; exact q2.elim
          | ln _ => simp only [e1] at q2; exact q2.elim
          | own d =>
            simp only [e1] at q2
            obtain ⟨l', o1, k1, k2, k3, k4⟩ := s2.ow j d e1
            rw [h1] at k1
            cases k1
            cases e2 : g d ds with
            | none => simp only [e2] at q2; exact q2.elim
            | some z =>
              obtain ⟨d', y⟩ := z
              simp only [e2] at q2
              have tops : ∀ {ds : List D} {vs : List V}, Reps X.K G2 ds vs → Tops X.K G2 H1 ds vs := fun {ds vs} h => by
                have key : ∀ (ds : List D) (vs : List V), Reps X.K G2 ds vs → Tops X.K G2 H1 ds vs := by
                  intro ds
                  induction ds with
                  | nil => intro vs h; cases h; exact .nil
                  | cons d ds ih => intro vs h; cases h with | cons a t => exact .cons (a.top s2.gh) (ih _ t)
                exact key ds vs h
              exact hg G2 H1 _ o1 d ds d' y vs Q s2.gh k4 k3 (tops rp) rp e2 fun o' v r1 r2 => Post.okD q2 _ v (.fz r2 (.nil (s2.mut e1 h1 r1)))
      · rw [if_neg ht] at p; exact p.elim
theorem de_bm {x name : Str} {px apos cpos : Pos} {T id : String} {okT : D → Bool} {g : D → List D → Option (D × D)} {r : V → List V → Hp → VK → Prop} (j : Nat) (pa : PlainAttrs T) (slot : Slot T name id) (hty : typeOf (.builtin id) = pure (.type "method_descriptor")) (hm : MtR X id r)
    (hT : TyOk X.K T okT) (hg : MutSound X.K g r) (ha : DA X Wx (e :: es) tr fs) (hN : X.N[j]? = some x := by rfl) (hv : Vis X.env.scope x := by first | exact Or.inl rfl | exact Or.inr (Or.inl rfl) | exact Or.inr (Or.inr rfl))
    (hd : (x == ("__debug__" : Str)) = false := by decide) (hcd : (x == ("__classdict__" : Str)) = false := by decide)
    (hbase : attributeBase (.Name x px) name X.env (eval (.Name x px) X.env) = eval (.Name x px) X.env := by rfl)
    (hfew : ((backTo cpos (starEach (e :: es) X.env)).all (fun x => !x.1) && (backToKw cpos (keywordEach [] X.env)).all (fun x => x.1.isSome)
      && decide ((e :: es).length + ([] : List Keyword).length + (if ([] : List Keyword).isEmpty then 0 else 1) < 30)) = true := by rfl)
    (hline : (apos.endLine == cpos.line) = true := by rfl) (hs : starEach (e :: es) X.env = (false, eval e X.env) :: starEach es X.env := by rfl) (hplain : (backTo cpos (starEach es X.env)).any (·.1) = false := by rfl) :
    DE X Wx (.Call (.Attribute (.Name x px) name apos) (e :: es) [] cpos) (tBM X.K T r (tVar j) tr) (dBM j okT g fs) :=
  ⟨pe_bm pa slot hty hm (pe_var hN hv hd hcd) ha.1 hbase hfew hline hs hplain, sem_bm hT hg ha.2⟩
def gAppend (d : D) (ds : List D) : Option (D × D) := match d, ds with
  | .lst xs, [y] => if xs.length ≤ 100000 then some (.lst (xs ++ [y]), .non) else none
  | _, _ => none
theorem s_append : MutSound K gAppend rAppend := by
  intro G H l o d ds d' y vs Q hG r hl tt t e q
  unfold gAppend at e
  split at e
  · split at e
    · rename_i hz
      cases e
      cases r with
      | lst r =>
      cases t with
      | cons t0 t1 =>
      cases t1
      exact ⟨_, _, _, rfl, rfl, hl, by rw [r.length, sizeLine_eq]; omega, q _ _ (.lst (r.append (.cons t0 .nil))) .non⟩
    · cases e
  · cases e
def gPop0 (d : D) (ds : List D) : Option (D × D) := match d, ds with
  | .lst xs, [] => (xs[xs.length - 1]?).map fun y => (.lst xs.dropLast, y)
  | _, _ => none
theorem Reps.dropLast {H : Hp} : ∀ {ds : List D} {vs : List V}, Reps K H ds vs → Reps K H ds.dropLast vs.dropLast
  | _, _, .nil => .nil
  | _, _, .cons _ .nil => .nil
  | _, _, .cons r (.cons q t) => .cons r (Reps.dropLast (.cons q t))
theorem Reps.eraseIdx {H : Hp} : ∀ {ds : List D} {vs : List V} (i : Nat), Reps K H ds vs → Reps K H (ds.eraseIdx i) (vs.eraseIdx i)
  | _, _, _, .nil => .nil
  | _, _, 0, .cons _ t => t
  | _, _, i + 1, .cons r t => .cons r (Reps.eraseIdx i t)
def gPop1 (d : D) (ds : List D) : Option (D × D) := match d, ds with
  | .lst xs, [.int i] => if decide (-(2 ^ 63) ≤ i ∧ i < 2 ^ 63) = true then (seqIndex? i xs.length).bind fun k => (xs[k]?).map fun y => (.lst (xs.eraseIdx k), y) else none
  | _, _ => none
def gExtend (d : D) (ds : List D) : Option (D × D) := match d, ds with
  | .lst xs, [.lst ys] => if xs.length + ys.length ≤ 100000 then some (.lst (xs ++ ys), .non) else none
  | _, _ => none
def dMR (okT : D → Bool) (g : D → List D → Option R) (f : Env → O R) (fs : Env → O (List R)) : Env → O R := fun ρ => (dN f ρ).bind fun ρ r => match useR ρ r with
  | some d0 => if okT d0 = true then (fs ρ).bind fun ρ rs => match useR ρ r, usesR ρ rs with
    | some d, some ds => ret ρ (g d ds)
    | _, _ => .un else .un
  | none => .un
end
end DN
set_option maxHeartbeats 2000000
namespace DN
open PySem PySem.Spec PyProof.Rows L2
open Evl (Ex)
section
variable {K : PySem.W.Frag} {X : Cx} {Wx : WX} {e a b c : Expr} {f h g3 : Env → O R} {pos p : Pos} {ta tb tc : TE} {tr : TA} {es : List Expr} {fs : Env → O (List R)}
def SetSound (K : PySem.W.Frag) (gs : D → D → D → Option D) (t : TSet) : Prop := ∀ G H l o x y d x' u w Q, Ex G H → RepO K G x o → H l = some o → Top K G H y u → Rep K G d w → gs x y d = some x' → (∀ o', RepO K G x' o' → Q (upd H l o')) → t (.ref l) u w H Q
theorem PSet.or {t t' : TSet} (h : PSet X t) (h' : PSet X t') : PSet X (fun o i v H Q => t o i v H Q ∨ t' o i v H Q) := by
  intro pins s σ H o i v ov iv u Q I ro ri rv q
  rcases q with q | q
  · exact h pins s σ H o i v ov iv u Q I ro ri rv q
  · exact h' pins s σ H o i v ov iv u Q I ro ri rv q
def rSetA : TSet := fun o i v H Q => rSetL o i v H Q ∨ rSetD o i v H Q
theorem set_any (hu : X.A.units + 1 < cLine) : PSet X rSetA := PSet.or set_list (set_dict hu)
def gPut (x y d : D) : Option D := match x with
  | .lst xs => match y with
    | .int k => (ixN xs.length k).map fun j => .lst (xs.set j d)
    | _ => none
  | .dct kvs => match keyD y with
    | some k => if kvs.length ≤ 100000 then some (.dct (putD kvs k d)) else none
    | none => none
  | _ => none
theorem s_put : SetSound K gPut rSetA := by
  intro G H l o x y d x' u w Q hG r hl t rd e q
  unfold gPut at e
  split at e
  · split at e
    · obtain ⟨j, ej, rfl⟩ := Option.map_eq_some_iff.mp e
      cases r with
      | lst r =>
      cases t
      exact .inl ⟨_, _, _, j, rfl, rfl, hl, by rw [r.length]; exact ej, q _ (.lst (Reps.set rd j r))⟩
    · cases e
  · split at e
    · rename_i k ek
      split at e
      · rename_i hz
        cases e
        cases r with
        | dct r => exact .inr ⟨_, _, rfl, .inl ⟨_, k, hl, keyD_top t ek, by rw [r.length, sizeLine_eq]; omega, rfl⟩, q _ (.dct (r.put rd))⟩
      · cases e
    · cases e
  · cases e
def ownAt (ρ : Env) (j : Nat) : Option D := match ρ[j]? with
  | some (.own x) => some x
  | _ => none
theorem ownAt_eq {ρ : Env} {j : Nat} {x : D} (h : ownAt ρ j = some x) : ρ[j]? = some (.own x) := by
  unfold ownAt at h
  split at h
  · rename_i x' e
    cases h
    exact e
  · cases h
def dSetI (j : Nat) (gs : D → D → D → Option D) (fi fv : Env → O R) : Env → O Fl := fun ρ => (dE fv ρ).bind fun ρ r => match ownAt ρ j with
  | some _ => (dN fi ρ).bind fun ρ ri => match r, useR ρ ri, ownAt ρ j with
    | .fz d, some y, some x => match gs x y d with
      | some x' => .ok (ρ.set j (.own x')) .nx
      | none => .un
    | _, _, _ => .un
  | none => .un
theorem OkVs.two_fz {L : Lent} {G B H : Hp} {σ : L2.St} {ρ : Env} {d : D} {r : R} {v u : V} (k : OkVs K L G H σ ρ B [.fz d, r] [v, u]) : Rep K G d v ∧ OkVs K L G H σ ρ B [r] [u] := by
  cases k with
  | fz a b => exact ⟨a, b⟩
theorem sem_setI {j : Nat} {gs : D → D → D → Option D} {t : TSet} {ti tv : TE} {fi fv : Env → O R} (hg : SetSound X.K gs t) (hi : SemE X Wx ti fi) (hv : SemE X Wx tv fv) : SemS X Wx [] (tAsg tv (L2.gSub (tVar j) ti t)) (dSetI j gs fi fv) := fun L G B H σ ρ D s p =>
  hv.froz L G B H σ ρ _ s ((PostS.bind p).imp fun ρ1 r1 G1 B1 H1 _ q1 v k1 => by
    have s1 := k1.state
    cases e1 : ownAt ρ1 j with
    | none => simp only [e1] at q1; exact q1.elim
    | some x0 =>
      simp only [e1] at q1
      obtain ⟨l, o0, h1, _⟩ := s1.ow j x0 (ownAt_eq e1)
      refine ⟨_, h1, k1.thenE hi.n ((PostS.bind q1).imp fun ρ2 r2 G2 B2 H2 _ q2 u k2 => ?_)⟩
      have s2 := k2.state
      cases r1 with
      | fz d =>
        obtain ⟨rd, k3⟩ := OkVs.two_fz k2
        cases eu : useR ρ2 r2 with
        | none => simp only [eu] at q2; exact q2.elim
        | some y =>
          cases e2 : ownAt ρ2 j with
          | none => simp only [eu, e2] at q2; exact q2.elim
          | some x =>
            simp only [eu, e2] at q2
            cases e3 : gs x y d with
            | none => simp only [e3] at q2; exact q2.elim
            | some x' =>
              simp only [e3] at q2
              obtain ⟨l', o, h1', _, h3, h4⟩ := s2.ow j x (ownAt_eq e2)
              rw [h1] at h1'
              cases h1'
              exact hg G2 H2 l o x y d x' u v _ s2.gh h4 h3 (k3.use eu) rd e3 fun o' r => q2 G2 B2 _ σ .refl .refl (s2.mut (ownAt_eq e2) h1 r)
      | own _ => exact q2.elim
      | bor _ => exact q2.elim
      | tp _ => exact q2.elim)
theorem ds_setI {x : Str} {px p1 : Pos} {ix v : Expr} {ti tv : TE} {fi fv : Env → O R} (j : Nat) (hu : X.A.units + 1 < cLine) (hi : DE X Wx ix ti fi) (hv : DE X Wx v tv fv) (hN : X.N[j]? = some x := by rfl)
    (hvis : Vis X.env.scope x := by first | exact Or.inl rfl | exact Or.inr (Or.inl rfl) | exact Or.inr (Or.inr rfl)) (hd : (x == ("__debug__" : Str)) = false := by decide) (hcd : (x == ("__classdict__" : Str)) = false := by decide)
    (ha : ∀ v, assign (.Subscript (.Name x px) ix p1) X.env v = (do
      let ov ← holding [v] (eval (.Name x px) X.env)
      let iv ← holding [v, ov] (eval ix X.env)
      standAt p1
      holding [v, ov, iv] (setItem ov iv v)
      release [v, ov, iv] []) := by intro _; rfl)
    (hs : swapsWithSole [.Subscript (.Name x px) ix p1] v pos.line X.env = pure false := by rfl) (hw : swappedStores [.Subscript (.Name x px) ix p1] v X.env = pure none := by rfl)
    (h1 : (assignEach [.Subscript (.Name x px) ix p1] X.env).map (·.2) = [assign (.Subscript (.Name x px) ix p1) X.env] := by rfl) :
    DS X Wx [] (.Assign [.Subscript (.Name x px) ix p1] v pos) (tAsg tv (L2.gSub (tVar j) ti rSetA)) (dSetI j gPut fi fv) :=
  ⟨ps_asg hv.1 (pg_sub (pe_var hN hvis hd hcd) hi.1 (set_any hu) ha) hs hw h1, sem_setI s_put hi.2 hv.2⟩
def goIx (x y : D) : Option D := match x, y with
  | .lst ds, .int i => atI ds i
  | .dct kvs, k => (keyD k).bind (valD kvs)
  | _, _ => none
def dAugI (j : Nat) (go : D → D → Option D) (op : D → D → Option R) (gs : D → D → D → Option D) (fi fv : Env → O R) : Env → O Fl := fun ρ => match ownAt ρ j with
  | some _ => (dE fi ρ).bind fun ρ ri => match ri, ownAt ρ j with
    | .fz y, some x => match go x y with
      | some d0 => (dN fv ρ).bind fun ρ rv => match useR ρ rv, ownAt ρ j with
        | some w, some x2 => match op d0 w with
          | some (.fz z) => match gs x2 y z with
            | some x' => .ok (ρ.set j (.own x')) .nx
            | none => .un
          | _ => .un
        | _, _ => .un
      | none => .un
    | _, _ => .un
  | none => .un
def SemR (X : Cx) (Wx : WX) (t : L2.St → Hp → (Int → Int → Hp → Prop) → Prop) (fr : Env → O (Int × Int)) : Prop := ∀ L G B H σ ρ Q, OkS X.K L G B H σ ρ →
  Post X.K Wx L G B σ (fr ρ) (fun ρ' z G' B' H' => OkS X.K L G' B' H' σ ρ' → Q z.1 z.2 H') → t σ H Q
def DR (X : Cx) (Wx : WX) (e : Expr) (t : L2.St → Hp → (Int → Int → Hp → Prop) → Prop) (fr : Env → O (Int × Int)) : Prop := PRg X e t ∧ SemR X Wx t fr
def dRg1 (f : Env → O R) : Env → O (Int × Int) := fun ρ => (dN f ρ).bind fun ρ r => match useR ρ r with
  | some (.int n) => .ok ρ (0, n)
  | _ => .un
def dRg2 (f h : Env → O R) : Env → O (Int × Int) := fun ρ => (dN f ρ).bind fun ρ r1 => (dN h ρ).bind fun ρ r2 => match useR ρ r1, useR ρ r2 with
  | some (.int n), some (.int m) => .ok ρ (n, m)
  | _, _ => .un
theorem dr_1 (hg : Gl X "range") (hm : X.mg "range" = none) (ha : DE X Wx a ta f) (na : starEach [a] X.env = (false, eval a X.env) :: starEach [] X.env := by rfl) : DR X Wx (.Call (.Name "range" p) [a] [] pos) (tRg1 ta) (dRg1 f) :=
  ⟨prg_1 hg hm ha.1 na, fun L G B H σ ρ Q s p => ha.2.n L G B H σ ρ _ s ((Post.bind p).imp fun ρ2 r2 G2 B2 H1 _ q2 v k2 => by
    have s2 := k2.state
    cases u : useR ρ2 r2 with
    | none => simp only [u] at q2; exact q2.elim
    | some d =>
      simp only [u] at q2
      cases d <;> try exact q2.elim
      have t := k2.use u
      cases t
      exact ⟨_, rfl, Post.okD q2 H1 s2⟩)⟩
def rgD (i j : Int) : List D := (List.range (j - i).toNat).map fun k => .int (i + (k : Nat))
theorem reps_rg {G : Hp} (i j : Int) : Reps K G (rgD i j) (rgV i j) := by
  unfold rgD rgV
  generalize List.range (j - i).toNat = l
  induction l with
  | nil => exact .nil
  | cons k l ih => exact .cons .int ih
def rgOk (i j : Int) : Bool := decide (-(2 ^ 62) ≤ i ∧ i < 2 ^ 62 ∧ -(2 ^ 62) ≤ j ∧ j < 2 ^ 62 ∧ j - i ≤ 1000000)
theorem rgOk_ok {i j : Int} (h : rgOk i j = true) : RgOk i j := by
  have h := of_decide_eq_true h
  exact ⟨h.1, h.2.1, h.2.2.1, h.2.2.2.1, by omega⟩
def dLstRg (fr : Env → O (Int × Int)) : Env → O R := fun ρ => (fr ρ).bind fun ρ z => if rgOk z.1 z.2 = true then .ok ρ (.own (.lst (rgD z.1 z.2))) else .un
theorem de_listRg {te : L2.St → Hp → (Int → Int → Hp → Prop) → Prop} {fr : Env → O (Int × Int)} (hc : X.calm = true) (hg : Gl X "list") (hm : X.mg "list" = none) (he : DR X Wx e te fr) (na : starEach [e] X.env = (false, eval e X.env) :: starEach [] X.env := by rfl) :
    DE X Wx (.Call (.Name "list" p) [e] [] pos) (tLstRg te) (dLstRg fr) :=
  ⟨pe_listRg hc hg hm he.1 na, fun L G B H σ ρ Q s p => he.2 L G B H σ ρ _ s ((Post.bind p).imp fun ρ1 z G1 B1 H1 _ q s1 => by
    by_cases hz : rgOk z.1 z.2 = true
    · rw [if_pos hz] at q
      exact ⟨rgOk_ok hz, fun a ha => Post.okD q _ _ (s1.own ha (.lst (reps_rg _ _)))⟩
    · rw [if_neg hz] at q; exact q.elim)⟩
def tyN : D → Option String
  | .non => some "NoneType"
  | .bl _ => some "bool"
  | .int _ => some "int"
  | .str _ => some "str"
  | .lst _ => some "list"
  | .tup _ => some "tuple"
  | .dct _ => some "dict"
  | _ => none
theorem tyX_of {G H : Hp} {d : D} {v : V} {n : String} (t : Top K G H d v) (e : tyN d = some n) : TyX K H v (.type n) := by
  cases t <;> simp only [tyN, Option.some.injEq, reduceCtorEq] at e <;> first | (subst e) | skip
  · exact .base .non
  · exact .base (.bl _)
  · exact .base (.int _)
  · exact .base (.str _)
  · rename_i a r
    rcases a with (a | ⟨o, a⟩) | ⟨its, n, a, _, _⟩
    · exact .base (.lst a)
    · exact .base (.frz a)
    · exact .kList a rfl
  · rename_i a r
    rcases a with (a | ⟨o, a⟩) | ⟨o, its, n, a, hc, _⟩
    · exact .base (.tup a)
    · exact .fTuple a
    · exact .kTuple a hc
  · rename_i a r
    rcases a with a | ⟨o, a⟩
    · exact .base (.dK a)
    · exact .fDict a
def gIsi : List D → Option R
  | [x, .ty c] => (tyN x).bind fun t => (kitB t c).map fun b => .fz (.bl b)
  | _ => none
theorem s_isi : CallSound K gIsi (rIsi K) := by
  intro G H ds vs z Q hG t e q
  unfold gIsi at e
  split at e
  · obtain ⟨v, v', rfl, t1, t2⟩ := t.two_inv
    obtain ⟨n, en, e⟩ := Option.bind_eq_some_iff.mp e
    obtain ⟨b, eb, rfl⟩ := Option.map_eq_some_iff.mp e
    cases t2
    exact ⟨_, _, _, _, b, rfl, .ty _, tyX_of t1 en, kit_ty eb, q _ .bl⟩
  · cases e
def reprOk (d : PyData) : Bool := d.showable && (decide (d.depth ≤ 64) && decide (d.shown.length ≤ 1000000))
theorem sysB_ok {K : PySem.W.Frag} (h : sysB K = true) : ∃ o, K.lookup sysModules = some o ∧ o.cls = .type "dict" := by
  unfold sysB at h
  split at h
  · rename_i o e
    exact ⟨o, e, of_decide_eq_true h⟩
  · cases h
mutual
/-- what is shown: the empty dict, too -/
def pyR : D → Option PyData
  | .non => some .none
  | .bl b => some (.bool b)
  | .int i => some (.int i)
  | .str x => some (.str x)
  | .lst ds => (pysR ds).map .list
  | .tup ds => (pysR ds).map .tuple
  | .dct [] => some (.dict [])
  | _ => none
def pysR : List D → Option (List PyData)
  | [] => some []
  | d :: ds => match pyR d, pysR ds with
    | some p, some ps => some (p :: ps)
    | _, _ => none
end
section
variable {pins : List (Addr × Obj)} {σ : L2.St} {H : Hp} {s : Shared}
theorem sys_ne (I : L2.Inv X pins σ H s) (hS : sysB X.K = true) {a : Addr} {o : Obj} {T : String} (ho : s.heap.get? a = some o) (hc : o.cls = .type T) (hT : T ≠ "dict") : sysModules ≠ a := fun e => by
  obtain ⟨u, h1, h2⟩ := sysB_ok hS
  have := I.kIn _ _ h1
  rw [e, ho] at this
  cases this
  rw [hc] at h2
  exact hT (Value.type.inj h2)
mutual
theorem rep_reads (I : L2.Inv X pins σ H s) (hS : sysB X.K = true) : ∀ (d : D) (v : V) (u : Value) (p : PyData), Rep X.K H d v → pyR d = some p → RelV v u → ∃ as, Reads s.heap u p as ∧ sysModules ∉ as
  | .non, _, _, _, h, e, r => by cases h; cases e; cases r; exact ⟨_, Reads.none, by simp⟩
  | .bl b, _, _, _, h, e, r => by cases h; cases e; cases r; exact ⟨_, Reads.bool b, by simp⟩
  | .int i, _, _, _, h, e, r => by cases h; cases e; obtain ⟨t, rfl⟩ := r; exact ⟨_, Reads.int i t, by simp⟩
  | .str x, _, _, _, h, e, r => by cases h; cases e; obtain ⟨t, rfl⟩ := r; exact ⟨_, Reads.str x t, by simp⟩
  | .lst ds, _, _, _, h, e, r => by
    unfold pyR at e
    obtain ⟨ps, e2, rfl⟩ := Option.map_eq_some_iff.mp e
    cases h with
    | lst hs ha =>
      cases r
      obtain ⟨its, rv, ⟨o, n, ho, hc, _, hd⟩, _⟩ := I.list hs.sql
      obtain ⟨as, hr, hn⟩ := reps_reads I hS ds _ its ps ha e2 rv
      refine ⟨_, Reads.list ho hc hd hr, fun q => ?_⟩
      rcases List.mem_cons.mp q with q | q
      · exact sys_ne I hS ho hc (by decide) q
      · exact hn q
  | .tup ds, _, _, _, h, e, r => by
    unfold pyR at e
    obtain ⟨ps, e2, rfl⟩ := Option.map_eq_some_iff.mp e
    cases h with
    | tup hs ha =>
      cases r
      obtain ⟨its, rv, ⟨o, ho, hc, n, hd⟩, _⟩ := I.tuple hs
      obtain ⟨as, hr, hn⟩ := reps_reads I hS ds _ its ps ha e2 rv
      exact ⟨_, Reads.tuple ho hc hd hr, hn⟩
  | .dct [], _, _, _, h, e, r => by
    cases h with
    | dct hr hk =>
      cases hk
      cases e
      cases r
      obtain ⟨_, hn, vs, kv, o, es, ep, ho, hx, hd, _, hp, _⟩ := dk_rd I.hok hr
      cases kv
      have he : es.toList = [] := by
        cases h : es.toList with
        | nil => rfl
        | cons e r => rw [h] at hp; cases hp
      refine ⟨_, Reads.dict (as := []) (bs := []) ho hx.1 hd (by rw [he]; exact .nil) (by rw [he]; exact .nil), fun q => ?_⟩
      simp only [List.append_nil, List.mem_singleton] at q
      rw [← q] at hn
      simp at hn
  | .dct (_ :: _), _, _, _, _, e, _ => by simp [pyR] at e
  | .ins _ _, _, _, _, _, e, _ => by simp [pyR] at e
  | .ref _, _, _, _, _, e, _ => by simp [pyR] at e
  | .ty _, _, _, _, _, e, _ => by simp [pyR] at e
theorem reps_reads (I : L2.Inv X pins σ H s) (hS : sysB X.K = true) : ∀ (ds : List D) (vs : List V) (us : List Value) (ps : List PyData), Reps X.K H ds vs → pysR ds = some ps → Vals vs us → ∃ as, ReadsAll s.heap us ps as ∧ sysModules ∉ as
  | [], _, _, _, h, e, r => by cases h; cases e; cases r; exact ⟨_, ReadsAll.nil, by simp⟩
  | d :: ds, _, _, _, h, e, r => by
    unfold pysR at e
    split at e
    · rename_i p ps e1 e2
      cases e
      cases h with
      | cons h1 h2 =>
        cases r with
        | cons r1 r2 =>
          obtain ⟨as, q1, n1⟩ := rep_reads I hS d _ _ p h1 e1 r1
          obtain ⟨bs, q2, n2⟩ := reps_reads I hS ds _ _ ps h2 e2 r2
          exact ⟨_, ReadsAll.cons q1 q2, fun q => (List.mem_append.mp q).elim n1 n2⟩
    · cases e
end
end
def gRepr : List D → Option R
  | [x] => (pyR x).bind fun d => if reprOk d = true then some (.fz (.str d.shown)) else none
  | _ => none
def rReprX (K : PySem.W.Frag) : List V → Hp → VK → Prop := fun xs H Q => ∃ x d p, xs = [x] ∧ Rep K H d x ∧ pyR d = some p ∧ p.showable = true ∧ p.depth ≤ 64 ∧ p.shown.length ≤ 1000000 ∧ Q (.str p.shown) H
theorem c_repr (hgd : X.A.guards = some []) (hS : sysB X.K = true) (hu : X.A.units + 66 < cLine) : CallR X (.builtin "repr") (rReprX X.K) := by
  intro pins s σ H xs us Q I r ⟨x, d, p, ex, hd, ep, h1, h2, h3, q⟩
  subst ex
  obtain ⟨u, rfl, rx⟩ := vals1 r
  have h3' : p.shown.length ≤ sizeLine := million h3
  obtain ⟨as, rd, hn⟩ := rep_reads I hS _ _ _ _ hd ep rx
  cases hd with
  | non => cases ep; cases rx; exact PySem.P.repr_of_none ⟨.str _, H, I.tok _, ⟨_, rfl⟩, q⟩
  | @bl b => cases ep; cases rx; exact PySem.P.repr_of_bool ⟨.str _, H, I.tok _, ⟨_, rfl⟩, q⟩
  | @int i =>
    cases ep
    obtain ⟨t, rfl⟩ := rx
    exact PySem.P.repr_of_int (by simpa [PyData.showable] using h1) ⟨.str _, H, I.tok _, ⟨_, rfl⟩, q⟩
  | @str z =>
    cases ep
    obtain ⟨t, rfl⟩ := rx
    exact PySem.P.repr_of_str ⟨.str _, H, I.tok _, ⟨_, rfl⟩, q⟩ h3'
  | lst a ha =>
    cases rx
    exact repr_of_reads' rd h1 (fun _ => hn) hgd (by omega) (fun _ _ e => e) (fun h' u tk hk => ⟨.str _, H, I.kept hk, ⟨_, rfl⟩, q⟩) h3'
  | tup a ha =>
    cases rx
    exact repr_of_reads' rd h1 (fun _ => hn) hgd (by omega) (fun _ _ e => e) (fun h' u tk hk => ⟨.str _, H, I.kept hk, ⟨_, rfl⟩, q⟩) h3'
  | dct a ha =>
    cases rx
    exact repr_of_reads' rd h1 (fun _ => hn) hgd (by omega) (fun _ _ e => e) (fun h' u tk hk => ⟨.str _, H, I.kept hk, ⟨_, rfl⟩, q⟩) h3'
  | ref => simp [pyR] at ep
  | ty => simp [pyR] at ep
  | ins a ha => simp [pyR] at ep
theorem s_repr : CallSound K gRepr (rReprX K) := by
  intro G H ds vs z Q hG t e q
  unfold gRepr at e
  split at e
  · obtain ⟨v, rfl, t1⟩ := t.one_inv
    obtain ⟨p, ep, e⟩ := Option.bind_eq_some_iff.mp e
    split at e
    · rename_i hz
      cases e
      have hz := Bool.and_eq_true_iff.mp hz
      have hz2 := Bool.and_eq_true_iff.mp hz.2
      exact ⟨_, _, p, rfl, t1.rep hG, ep, hz.1, of_decide_eq_true hz2.1, of_decide_eq_true hz2.2, q _ .str⟩
    · cases e
  · cases e
def gBits : D → Option R
  | .int i => some (.fz (.int (ibits i : Nat)))
  | _ => none
theorem s_bits : UnSound K gBits (fun x H Q => ∃ i, x = .int i ∧ Q (.int (Builtin.Int.intBits i : Nat)) H) := by
  intro G H x v z Q _ t e q
  unfold gBits at e
  split at e
  · cases e
    cases t
    exact ⟨_, rfl, q _ .int⟩
  · cases e
theorem de_bits {o : Expr} {apos pos : Pos} (ho : DE X Wx o ta f) (hbase : attributeBase o "bit_length" X.env (eval o X.env) = eval o X.env := by rfl) (hline : (apos.endLine == pos.line) = true := by rfl) :
    DE X Wx (.Call (.Attribute o "bit_length" apos) [] [] pos) (tUn (fun x H Q => ∃ i, x = .int i ∧ Q (.int (Builtin.Int.intBits i : Nat)) H) ta) (dUn gBits f) :=
  ⟨pe_bits ho.1 hbase hline, one s_bits ho.2⟩
theorem de_cb {id : String} {x : Str} {g : List D → Option R} {r : List V → Hp → VK → Prop} (hc : CallR X (.builtin id) r) (hs : CallSound X.K g r) (hg : Gl X x) (hm : X.mg x = none) (hv : bootBuiltins x = some (.builtin id)) (ha : DA X Wx (e :: es) tr fs) (hn : x ≠ "__name__" := by decide) (hdb : (x == ("__debug__" : Str)) = false := by decide)
    (he : starEach (e :: es) X.env = (false, eval e X.env) :: starEach es X.env := by rfl) (hpl : (backTo pos (starEach es X.env)).any (·.1) = false := by rfl) : DE X Wx (.Call (.Name x p) (e :: es) [] pos) (tCB r tr) (dCB g fs) :=
  ⟨pe_callB hc hg hm hv ha.1 hn hdb he hpl, sem_cb hs ha.2⟩
theorem de_ct {T : String} {x : Str} {g : List D → Option R} {r : List V → Hp → VK → Prop} (hc : CallR X (.type T) r) (hs : CallSound X.K g r) (hg : Gl X x) (hm : X.mg x = none) (hv : bootBuiltins x = some (.type T)) (ha : DA X Wx (e :: es) tr fs) (hn : x ≠ "__name__" := by decide) (hdb : (x == ("__debug__" : Str)) = false := by decide)
    (he : starEach (e :: es) X.env = (false, eval e X.env) :: starEach es X.env := by rfl) (hpl : (backTo pos (starEach es X.env)).any (·.1) = false := by rfl) : DE X Wx (.Call (.Name x p) (e :: es) [] pos) (tCB r tr) (dCB g fs) :=
  ⟨pe_callTy hc hg hm hv ha.1 hn hdb he hpl, sem_cb hs ha.2⟩
theorem de_glob {x : Str} {v : V} {u : Value} {d : D} (hg : Gl X x) (hm : X.mg x = some u) (r : RelV v u) (rd : ∀ H, Rep X.K H d v) (hd : (x == ("__debug__" : Str)) = false := by decide) : DE X Wx (.Name x pos) (tC v) (dC d) := de_c (pe_glob hg hm r hd) rd
theorem de_ty {x : Str} {n : String} (hg : Gl X x) (hm : X.mg x = none) (hv : bootBuiltins x = some (.type n)) (hn : x ≠ "__name__" := by decide) (hd : (x == ("__debug__" : Str)) = false := by decide) : DE X Wx (.Name x pos) (tC (.ty n)) (dC (.ty n)) := de_c (pe_bltn hg hm hv rfl hn hd) fun _ => .ty
def dDnew : Env → O R := fun ρ => .ok ρ (.own (.dct []))
theorem de_dnew : DE X Wx (.Dict [] [] pos) tDNewK dDnew := ⟨pe_dnewK, fun L G B H σ ρ Q s p a ha => Post.okD p _ _ (s.own ha (.dct .nil))⟩
end
end DN
set_option maxHeartbeats 2000000
namespace DN
open PySem PySem.Spec PyProof.Rows L2
open Evl (Ex)
section
variable {P : Program} {w : World} {K : PySem.W.Frag} {mg : Str → Option Value} {base : Heap} {x qual : Str} {params : Arguments} {stmts : List Stmt} {sc : Scope} {dvs : List V} {kws : List (Str × V)} {f : Addr} {fd : FuncData}
/-- a def's promise by its body -/
theorem FunD.okG {N ps : List Str} {k : Nat} {sp : Sp} (F : FunD K x qual params stmts sc dvs kws f fd) (S : FnScope N ps sc) (len : ∀ vs H Q E, sp vs H Q E → vs.length = ps.length)
    (body : ∀ (cd : Value) (A : Around) (out : List PySem.Env) (s0 : Shared) (H0 : Hp) (vs : List V) (Q : VK) (E : XK), Room k (A.deeper (envOfC qual sc s0.heap.objs.size f cd)) → A.guards = some [] → sp vs H0 Q E →
      ∃ t, PSs (cxOf (L2.CX P w) P w K mg base N qual sc f cd A out s0 H0 E) stmts t ∧ t { nx := fun _ H' => Q .non H', rt := Q } (start N vs) H0) : FnG P w K mg base (k + 1) f fd ps sp := by
  obtain ⟨o1, o2, v0, v1, v2, v3, an, cd, ct, sl, efd, lk, hcd, _, _⟩ := F.ex
  subst efd
  refine ⟨len, fun A out s0 H0 ar us vs Q E room gd e0 bt rv hs => ?_⟩
  have kin : K.In s0.heap := e0.mod.kin.keeps fun a ob q => (e0.bs a ob q).1
  have names : ∀ z ∈ ps.zip us, sc.names.lookup z.1 = some .local ∨ (sc.names.lookup z.1 = some .cell ∧ ((cellsFrom (s0.heap.objs.size + 1) sc.names []).lookup z.1).isSome = true) := fun ⟨nm, vl⟩ hz =>
    (S.par nm (List.of_mem_zip hz).1).imp id fun q => ⟨q, PySem.W.cellsFrom_some _ _ _ (.inl q)⟩
  refine codeAny_call_function room.depth (kin _ _ lk) rfl S.co S.gen rfl (PySem.W.codeRec_of kin hcd) (bt _ _ _ _ (wpAny_newFunctionEnv_cells S.kind names fun env he s1 x => ?_))
  subst he
  refine ⟨(e0.mod.nolimit.keeps fun a ob q => (e0.bs a ob q).1).keeps x.toInCall.keep, codeAny_func ?_⟩
  obtain ⟨t, pt, q⟩ := body cd A out s0 H0 vs Q E (room.deeper _) gd hs
  have I := inv_start (CX := L2.CX P w) (E := E) (N := N) S room.hd e0 (len _ _ _ _ hs) rv x
  refine wpAny_mono (pt.run [] s1 (start N vs) H0 _ I q) (fun fl s2 h2 => ?_) fun e s2 h2 => h2
  cases fl with
  | ret u =>
    obtain ⟨v, σ', H', J, rv', q'⟩ := h2
    exact ⟨v, H', J.os, J.bare, J.base, J.hok, rv', q'⟩
  | next =>
    obtain ⟨σ', H', J, q'⟩ := h2
    exact ⟨V.non, H', J.os, J.bare, J.base, J.hok, rfl, q'⟩
  | brk =>
    obtain ⟨_, _, _, q'⟩ := h2
    exact q'.elim
  | cont =>
    obtain ⟨_, _, _, q'⟩ := h2
    exact q'.elim
/-- what a body's denotation promises -/
theorem den_post {X : Cx} {N : List Str} {ms : List Md} {body : Env → O Fl} {Sb : List Nat} {t : TS} {vs : List V} {H0 : Hp} {Q : VK} {E : XK} (hN : ms.length ≤ N.length) (hio : ∀ i, ms[i]? = some .io → i ∉ Sb)
    (sem : SemS X (fun c d _ H => E c d H) Sb t body) (h : spM X.K ms (denF ms N.length body) vs H0 Q E) : t { nx := fun _ H' => Q .non H', rt := Q } (start N vs) H0 := by
  obtain ⟨G, B, ds, a, post⟩ := h
  obtain ⟨L, s⟩ := a.start (N := N) (by rw [a.lv]; exact hN)
  refine sem L G B H0 (L2.start N vs) _ _ s ?_
  have hw : ∀ {σ' : L2.St}, Stay Sb (L2.start N vs) σ' → ∀ (i : Nat) v, ms[i]? = some .io → vs[i]? = some v → σ'[0 + i]? = some (some v) := fun st i v e1 e2 => by
    rw [Nat.zero_add]; exact st.get (hio i e1) e2
  unfold denF at post
  cases eb : body (env0 ms N.length ds) with
  | un => rw [eb] at post; exact post.elim
  | er ρ e =>
    simp only [eb] at post
    intro G' B' H' σ' c d gr sy s' oe
    cases eo : outsOf ρ ms 0 with
    | none => simp only [eo] at post
    | some outs =>
      simp only [eo] at post
      obtain ⟨ρ', k'⟩ := outs_take (OkVs.nil s') (hw sy) a.lv eo
      refine post G' B' H' c d gr ?_ oe
      have := k'.forget (fun r hr => by
        rw [List.append_nil] at hr
        obtain ⟨d, _, rfl⟩ := List.mem_map.mp hr
        rfl)
      rw [List.append_nil, List.append_nil] at this
      exact this
  | ok ρ fl =>
    simp only [eb] at post
    cases fl with
    | bk => exact post.elim
    | ct => exact post.elim
    | nx =>
      intro G' B' H' σ' gr sy s'
      cases eo : outsOf ρ ms 0 with
      | none => simp only [eo] at post
      | some outs =>
        simp only [eo] at post
        obtain ⟨ρ', k'⟩ := outs_take (OkVs.fz (d := .non) (v := .non) .non (OkVs.nil s')) (hw sy) a.lv eo
        refine post G' B' H' _ gr (k'.forget fun r hr => ?_)
        rcases List.mem_append.mp hr with hr | hr
        · obtain ⟨d, _, rfl⟩ := List.mem_map.mp hr
          rfl
        · rw [List.mem_singleton.mp hr]; rfl
    | rt r =>
      intro G' B' H' σ' v gr sy kv
      simp only at post
      cases ec : closeR ρ r with
      | none => simp only [ec] at post
      | some y =>
        obtain ⟨ρ1, r1⟩ := y
        simp only [ec] at post
        cases eo : outsOf ρ1 ms 0 with
        | none => simp only [eo] at post
        | some outs =>
          simp only [eo] at post
          obtain ⟨G2, B2, g2, k2, n1, n2⟩ := closeR_ok kv ec
          obtain ⟨ρ', k'⟩ := outs_take k2 (hw sy) a.lv eo
          refine post G2 B2 H' v (gr.trans g2) (k'.forget fun q hq => ?_)
          rcases List.mem_append.mp hq with hq | hq
          · obtain ⟨d, _, rfl⟩ := List.mem_map.mp hq
            rfl
          · rw [List.mem_singleton.mp hq]
            cases r1 with
            | fz => rfl
            | own => rfl
            | bor i => exact absurd rfl (n2 i)
            | tp qs => exact List.all_eq_true.mpr (n1 qs rfl)
/-- the context of a def's body -/
abbrev cxD (P : Program) (w : World) (K : PySem.W.Frag) (mg : Str → Option Value) (base : Heap) (N : List Str) (qual : Str) (sc : Scope) (f : Addr) (cd : Value) (A : Around) (out : List PySem.Env) (s0 : Shared) (H0 : Hp) (E : XK) : Cx :=
  cxOf (L2.CX P w) P w K mg base N qual sc f cd A out s0 H0 E
theorem fnd_den {N ps : List Str} {k : Nat} {ms : List Md} {body : Env → O Fl} {Sb : List Nat} (F : FunD K x qual params stmts sc dvs kws f fd) (S : FnScope N ps sc)
    (hl : ms.length = ps.length) (hio : ∀ i, ms[i]? = some .io → i ∉ Sb)
    (hbody : ∀ (cd : Value) (A : Around) (out : List PySem.Env) (s0 : Shared) (H0 : Hp) (E : XK), Room k (A.deeper (envOfC qual sc s0.heap.objs.size f cd)) → A.guards = some [] →
      Takes (cxD P w K mg base N qual sc f cd A out s0 H0 E) (fun c d _ H => E c d H) →
      ∃ t, DSs (cxD P w K mg base N qual sc f cd A out s0 H0 E) (fun c d _ H => E c d H) Sb stmts t body) :
    FnG P w K mg base (k + 1) f fd ps (spM K ms (denF ms N.length body)) := by
  refine FunD.okG F S (fun vs H Q E h => ?_) (fun cd A out s0 H0 vs Q E room gd h => ?_)
  · obtain ⟨G, B, ds, a, _⟩ := h
    rw [a.lv, hl]
  · obtain ⟨t, pt, sem⟩ := hbody cd A out s0 H0 E room gd (takes_of rfl rfl rfl rfl)
    exact ⟨t, pt, den_post (X := cxD P w K mg base N qual sc f cd A out s0 H0 E) (by rw [hl, ← S.pre, List.length_take]; exact Nat.min_le_right _ _) hio sem h⟩
end
def swapAt {α : Type} : Nat → List α → List α
  | 0, a :: b :: r => b :: a :: r
  | k + 1, a :: r => a :: swapAt k r
  | _, r => r
def swaps {α : Type} (ks : List Nat) (xs : List α) : List α := ks.foldl (fun xs k => swapAt k xs) xs
theorem swapAt_mem {α : Type} : ∀ (k : Nat) (xs : List α) {x : α}, x ∈ swapAt k xs → x ∈ xs
  | 0, [], _, h => h
  | 0, [_], _, h => h
  | 0, a :: b :: r, x, h => by
    rcases List.mem_cons.mp h with rfl | h
    · simp
    · rcases List.mem_cons.mp h with rfl | h
      · simp
      · simp [h]
  | k + 1, [], _, h => h
  | k + 1, a :: r, x, h => by
    rcases List.mem_cons.mp h with rfl | h
    · simp
    · exact List.mem_cons_of_mem _ (swapAt_mem k r h)
theorem vals_swapAt : ∀ (k : Nat) {vs : List V} {us : List Value}, Vals vs us → Vals (swapAt k vs) (swapAt k us)
  | 0, _, _, .nil => .nil
  | 0, _, _, .cons a .nil => .cons a .nil
  | 0, _, _, .cons a (.cons b r) => .cons b (.cons a r)
  | k + 1, _, _, .nil => .nil
  | k + 1, _, _, .cons a r => .cons a (vals_swapAt k r)
theorem vals_swaps : ∀ (ks : List Nat) {vs : List V} {us : List Value}, Vals vs us → Vals (swaps ks vs) (swaps ks us)
  | [], _, _, h => h
  | k :: ks, _, _, h => vals_swaps ks (vals_swapAt k h)
section
variable {K : PySem.W.Frag} {L : Lent} {G H : Hp} {σ : L2.St} {ρ : Env}
theorem OkVs.swapAt : ∀ (k : Nat) {B : Hp} {rs : List R} {vs : List V}, OkVs K L G H σ ρ B rs vs → (∀ r ∈ rs, isTp r = false) → OkVs K L G H σ ρ B (swapAt k rs) (swapAt k vs)
  | 0, B, [], vs, h, n => by cases h; exact .nil ‹_›
  | k + 1, B, [], vs, h, n => by cases h; exact .nil ‹_›
  | k + 1, B, r :: rs, [], h, n => by have := h.length; simp at this
  | k + 1, B, r :: rs, v :: vs, h, n => by
    have n' : ∀ q ∈ rs, isTp q = false := fun q hq => n q (List.mem_cons_of_mem _ hq)
    show OkVs K L G H σ ρ B (r :: DN.swapAt k rs) (v :: DN.swapAt k vs)
    cases h with
    | fz a h => exact .fz a (OkVs.swapAt k h n')
    | bor a h => exact .bor a (OkVs.swapAt k h n')
    | own g l b a h => exact .own g l b a (OkVs.swapAt k h n')
    | tp => exact Bool.noConfusion (n _ List.mem_cons_self)
  | 0, B, [r], vs, h, n => by
    have e := h.length
    cases vs with
    | nil => simp at e
    | cons v vs =>
      cases vs with
      | nil => exact h
      | cons => simp at e
  | 0, B, r1 :: r2 :: rs, vs, h, n => by
    have e := h.length
    match vs, h, e with
    | [], _, e => simp at e
    | [_], _, e => simp at e
    | v1 :: v2 :: vs, h, _ =>
      show OkVs K L G H σ ρ B (r2 :: r1 :: rs) (v2 :: v1 :: vs)
      have n1 := n r1 List.mem_cons_self
      have n2 := n r2 (List.mem_cons_of_mem _ List.mem_cons_self)
      cases h with
      | tp => exact Bool.noConfusion n1
      | fz a h =>
        cases h with
        | tp => exact Bool.noConfusion n2
        | fz b h => exact .fz b (.fz a h)
        | bor b h => exact .bor b (.fz a h)
        | own g l b c h => exact .own g l b c (.fz a h)
      | bor a h =>
        cases h with
        | tp => exact Bool.noConfusion n2
        | fz b h => exact .fz b (.bor a h)
        | bor b h => exact .bor b (.bor a h)
        | own g l b c h => exact .own g l b c (.bor a h)
      | @own _ l1 o1 _ _ _ g1 m1 b1 a1 h =>
        cases h with
        | tp => exact Bool.noConfusion n2
        | fz b h => exact .fz b (.own g1 m1 b1 a1 h)
        | bor b h => exact .bor b (.own g1 m1 b1 a1 h)
        | @own _ l2 o2 _ _ _ g2 m2 b2 a2 h =>
          have hne : l2 ≠ l1 := fun z => by subst z; rw [upd_same] at b2; cases b2
          rw [upd_ne hne] at b2
          refine .own g2 m2 b2 a2 (.own g1 m1 (by rw [upd_ne (Ne.symm hne)]; exact b1) a1 ?_)
          rw [upd_comm hne]
          exact h
theorem OkVs.swaps : ∀ (ks : List Nat) {B : Hp} {rs : List R} {vs : List V}, OkVs K L G H σ ρ B rs vs → (∀ r ∈ rs, isTp r = false) → OkVs K L G H σ ρ B (swaps ks rs) (swaps ks vs)
  | [], _, _, _, h, _ => h
  | k :: ks, _, _, _, h, n => OkVs.swaps ks (h.swapAt k n) fun r hr => n r (swapAt_mem k _ hr)
end
structure KB0 (K : PySem.W.Frag) (fd : FuncData) (ps ks : List Str) (sw : List Nat) : Prop where
  to : ∀ (s : Shared) (ws : List Value), K.In s.heap → ws.length = ks.length → BindsTo s fd ⟨[], ks.zip ws⟩ (ps.zip (swaps sw ws))
theorem KB0.of {K : PySem.W.Frag} {x qual : Str} {params : Arguments} {stmts : List Stmt} {sc : Scope} {kws : List (Str × V)} {f : Addr} {fd : FuncData} {ps ks : List Str} {sw : List Nat} (F : FunD K x qual params stmts sc [] kws f fd)
    (h : ∀ (kV doc pm : Value) (an : Option Addr) (cdv ct : Value) (ws : List Value), ws.length = ks.length → bindArgs (PySem.W.fnOf x qual params stmts sc .none kV doc pm an cdv ct) ⟨[], ks.zip ws⟩ = pure (ps.zip (swaps sw ws))) : KB0 K fd ps ks sw := by
  obtain ⟨oc, od, dV, kV, doc, pm, an, cdv, ct, osl, rfl, lk, hcd, hD, hK⟩ := F.ex
  rcases hD with ⟨_, rfl⟩ | ⟨e, _⟩
  · exact ⟨fun s ws _ hl => .of_eq (h kV doc pm an cdv ct ws hl)⟩
  · exact absurd rfl e
def tCallS (n : Nat) (sp : Sp) (sw : List Nat) (E : L2.St → XK) (t : TA) : TE := fun σ H Q => t σ H fun zs H1 => zs.length = n ∧ sp (swaps sw zs) H1 Q (E σ)
def dCallS (n : Nat) (sw : List Nat) (ms : List Md) (m : List D → FO) (fs : Env → O (List R)) : Env → O R := fun ρ => (fs ρ).bind fun ρ rs => if (decide (rs.length = n) && rs.all fun r => !isTp r) = true then callM ms m ρ (swaps sw rs) else .un
def DK (X : Cx) (Wx : WX) (kws : List Keyword) (t : TA) (fs : Env → O (List R)) : Prop := PK X kws t ∧ SemA X Wx t fs
section
variable {X : Cx} {Wx : WX} {k : Nat} {f : Addr} {fd : FuncData} {ps ks : List Str} {x : Str} {p pos kpos : Pos} {e : Expr} {ta : TE} {t : TA} {fe : Env → O R} {fs : Env → O (List R)} {ms : List Md} {m : List D → FO} {sw : List Nat} {kws : List Keyword} {nm : Option Str}
theorem dk_nil : DK X Wx [] tNil dNil := ⟨pk_nil, fun L G B H σ ρ Q s p => Post.okD p H [] (.nil s)⟩
theorem dk_cons (ha : DE X Wx e ta fe) (hr : DK X Wx kws t fs) : DK X Wx (⟨nm, e, kpos⟩ :: kws) (tCons ta t) (dConsN fe fs) :=
  ⟨pk_cons ha.1 hr.1, fun L G B H σ ρ Q s p => ha.2.n L G B H σ ρ _ s ((Post.bind p).imp fun ρ1 r1 G1 B1 H1 _ q v k => k.thenA hr.2 ((Post.bind q).imp fun ρ2 r2 G2 B2 H2 _ q2 w k2 => Post.okD q2 H2 _ k2))⟩
theorem de_callS (F : FnG X.prog X.w X.K X.mg X.base k f fd ps (spM X.K ms m)) (hr : Room k X.A) (hG : X.A.guards = some []) (tk : Takes X Wx) (hg : Gl X x) (hm : X.mg x = some (.ref f)) (hk : PySem.W.keepIn X.K (.ref f) = true) (hb : KB0 X.K fd ps ks sw)
    (ha : DK X Wx kws t fs) (hall : (backToKw pos (keywordEach kws X.env)).all (·.1.isSome) = true := by rfl) (hks : (backToKw pos (keywordEach kws X.env)).filterMap (·.1) = ks := by rfl) (hdb : (x == ("__debug__" : Str)) = false := by decide)
    (hpl : ((backTo pos (starEach [] X.env)).any (·.1) || (backToKw pos (keywordEach kws X.env)).any (·.1.isNone)) = false := by rfl) :
    DE X Wx (.Call (.Name x p) [] kws pos) (tCallS ks.length (spM X.K ms m) sw (WE Wx) t) (dCallS ks.length sw ms m fs) := by
  refine ⟨⟨fun pins s σ H Q I h => ?_⟩, fun L G B H σ ρ Q s pp => ha.2 L G B H σ ρ _ s ((Post.bind pp).imp fun ρ1 rs G1 B1 H1 _ q vs kk => ?_)⟩
  · refine wpAny_Call_Name_kw (ld_glob I hg hm ?_ hdb)
    refine PySem.W.callWith_KW0 (h₀ := X.base) I.ok.mod.kin hk hall (thn (ha.1.run pos pins s σ H _ I h) fun ws s1 hq => ?_) hpl
    obtain ⟨zs, H1, I1, rz, hl, q⟩ := hq
    refine ⟨I1.kIn, ?_⟩
    rw [hks]
    refine wpAny_call (codeAny_mono (run_G F hr hG (hb.to s1 ws I1.kIn (rz.length.symm.trans hl)) (passAt tk σ) I1 (vals_swaps sw rz) q) fun out s2 q2 => ?_)
    cases out with
    | error e => exact q2
    | ok fl =>
      cases fl with
      | ret u => exact q2
      | next => exact q2.elim
      | brk => exact q2.elim
      | cont => exact q2.elim
  · by_cases hc : (decide (rs.length = ks.length) && rs.all fun r => !isTp r) = true
    · rw [if_pos hc] at q
      obtain ⟨h1, h2⟩ := Bool.and_eq_true_iff.mp hc
      have h1 := of_decide_eq_true h1
      exact ⟨by rw [← kk.length]; exact h1, callM_ok (kk.swaps sw fun r hr => by simpa using List.all_eq_true.mp h2 r hr) q⟩
    · rw [if_neg hc] at q; exact q.elim
end
def OnlyS (a : Addr) (H : Hp) : Prop := ∀ b, H b = none ∨ b = a ∧ ∃ o xs, H b = some (.frz o (.lst xs))
theorem script_heap {P : Program} {w : World} {K : PySem.W.Frag} {s : Shared} {a : Addr} {vs : List Value} {ns : List Int} (KX : K.In s.heap) (ha : s.heap.get? a = some { cls := .type "list", data := .seq vs.toArray }) (rv : Vals (ns.map V.int) vs) (hl : ns.length ≤ sizeLine) :
    ∃ H : Hp, OnlyS a H ∧ SqX K H a (ns.map V.int) ∧ HOk P w H s.heap ∧ (H a ≠ none → K.lookup a = none) := by
  have hlen : vs.length = ns.length := by have := rv.length; rw [List.length_map] at this; exact this.symm
  cases hk : K.lookup a with
  | some o =>
    have q := KX a o hk
    rw [ha] at q
    cases q
    exact ⟨fun _ => none, fun _ => .inl rfl, .inr ⟨vs, _, hk, by rw [hlen]; exact hl, rv⟩, (fun b u z => nomatch (show (none : Option HO) = some u from z)), fun z => (z rfl).elim⟩
  | none =>
    refine ⟨upd (fun _ => none) a (.frz { cls := .type "list", data := .seq vs.toArray } (.lst (ns.map V.int))), fun b => ?_, .inl (.inr ⟨_, upd_same⟩), fun b u z => ?_, fun _ => rfl⟩
    · by_cases hb : b = a
      · exact .inr ⟨hb, by subst hb; exact ⟨_, _, upd_same⟩⟩
      · exact .inl (upd_ne hb)
    · by_cases hb : b = a
      · subst hb
        rw [upd_same] at z
        cases z
        exact ⟨ha, ⟨by rw [List.length_map]; exact hl, vs, _, rv, ha⟩⟩
      · rw [upd_ne hb] at z
        cases z
theorem ends_of {P : Program} {w : World} {K : PySem.W.Frag} {mg mb : Str → Option Value} {k : Nat} {fa a : Addr} {fd : FuncData} {x : Str} {sp : Sp} {s : Shared} {vs : List Value} {ns : List Int}
    (KX : K.In s.heap) (hns : s.heap.Ns mainGlobals mg) (hb : s.heap.Ns builtinsNs mb) (hbb : ∀ x : Str, x ≠ "__name__" → mb x = bootBuiltins x) (hlim : s.heap.NoLimit) (hg : s.gens = #[])
    (ha : s.heap.get? a = some { cls := .type "list", data := .seq vs.toArray }) (hi : IntsAre vs ns) (hl : ns.length ≤ sizeLine) (hr : Room k callerA)
    (F : ∀ base : Heap, FnG P w K mg base k fa fd [x] sp) (hbind : ∀ (s : Shared) (u : Value), BindsTo s fd ⟨[u], []⟩ [(x, u)])
    (hsp : ∀ H : Hp, SqX K H a (ns.map V.int) → sp [.ref a] H (fun v _ => v = .bl true) fun _ _ _ => False) :
    codeAny (model P w) callerA (.call (.ref fa) ⟨[.ref a], []⟩) (fun r s' => r = .ok (.ret (.bool true)) ∧ OldK s.heap s'.heap ∧ s'.os = s.os ∧ AllBare s'.gens) s := by
  obtain ⟨H, only, sq, hok, hK⟩ := script_heap (P := P) (w := w) KX ha (vals_ints hi) hl
  have keeps : ∀ {b : Addr} {o : Obj}, s.heap.get? b = some o → H b = none → (hidT s.heap H).get? b = some o := fun e n => hidT_get e n
  have nodict : ∀ {b : Addr} {o : Obj} {es : Array DictEntry} {ep : Nat}, s.heap.get? b = some o → o.data = .dict es ep → H b = none := fun {b o es ep} e d => by
    rcases only b with q | ⟨rfl, _⟩
    · exact q
    · rw [ha] at e
      cases e
      exact nomatch (show Data.seq vs.toArray _ = Data.dict es ep from d)
  have nss : ∀ {b : Addr} {m : Str → Option Value}, s.heap.Ns b m → (hidT s.heap H).Ns b m := fun {b m} z => by
    obtain ⟨o, es, ep, e, d, r⟩ := z
    exact ⟨o, es, ep, keeps e (nodict e d), d, r⟩
  have kb : K.In (hidT s.heap H) := fun b o e => keeps (KX b o e) (by
    rcases only b with q | ⟨rfl, o2, xs, q⟩
    · exact q
    · rw [hK (by rw [q]; simp)] at e
      cases e)
  obtain ⟨mc, l1, l2⟩ := hlim
  have en : Env0 P w K mg (hidT s.heap H) callerA [] s H := { frames := rfl, mod := ⟨kb, nss hns, ⟨mb, nss hb, hbb⟩, ⟨mc, nss l1, l2⟩⟩, bs := fun b o e => of_hidT e, bsz := Nat.le_of_eq (hidT_size _ _), funs := trivial, frf := fun b hb => (nomatch hb), hok := hok, bare := .of_eq hg }
  refine codeAny_mono ((F _).run callerA [] s H ⟨[.ref a], []⟩ [.ref a] [.ref a] _ _ hr rfl en (hbind s (.ref a)) (.cons rfl .nil) (hsp H sq)) fun r s' h => ?_
  cases r with
  | error e =>
    obtain ⟨_, _, _, _, _, _, _, _, _, _, _, _, z⟩ := h
    exact z.elim
  | ok fl =>
    cases fl with
    | next => exact h.elim
    | brk => exact h.elim
    | cont => exact h.elim
    | ret u =>
      obtain ⟨v, H', os, bare, un, hok', r', q⟩ := h
      have q : v = .bl true := q
      subst q
      have eu : u = Value.bool true := r'
      subst eu
      refine ⟨rfl, OldK.of_keep fun b o e => ?_, os, bare⟩
      rcases only b with z | ⟨_, ob, xs, z⟩
      · exact un.keep b o e z (fun y => nomatch y) (fun y => nomatch y)
      · obtain ⟨e1, _⟩ := hok b _ z
        obtain ⟨e2, _⟩ := hok' b _ (un.frzs b ob _ z)
        rw [e] at e1
        cases e1
        exact e2
/-- a law: its def's denotation says True of every script -/
theorem walk_den {l : PySem.W.OpenLaw} {n k : Nat} {q : Program} {loose : List Str} {XP : (Str → Option Value) → Heap → Prop} {YP : World → Heap → Prop} {d : DefRec} {x : Str} {m : List D → FO}
    (hn : l.most = some n) (hn2 : n ≤ sizeLine) (hdf : d.params.defaults = []) (hr : Room k callerA)
    (F : ∀ (w : World) (mg : Str → Option Value) (fa : Addr) (h : Heap), YP w h → h.Ns mainGlobals mg → mg d.name = some (.ref fa) →
      ∃ (K : PySem.W.Frag) (fd : FuncData), K.In h ∧ (∀ (s : Shared) (u : Value), BindsTo s fd ⟨[u], []⟩ [(x, u)]) ∧ ∀ base : Heap, FnG l.prog w K mg base k fa fd [x] (spM K [.fz] m))
    (hm : ∀ ns : List Int, ns.length ≤ n → m [.lst (ns.map .int)] = .ok [] (.fz (.bl true))) :
    PySem.W.WalkO q loose XP YP l.row.toRowW d [] (fun f vs => PySem.call f vs) := by
  refine Att.attach_call hn hdf fun w s₀ s mg mb fa o pm cd doc a vs ns G Y ho hd hcd hmg hobj hints hlen hg => ?_
  obtain ⟨K, fd, KX, hb, hF⟩ := F w mg fa _ Y G.T.g hmg
  refine ends_of KX G.T.g G.T.b G.T.builtins G.T.nolimit hg hobj hints (Nat.le_trans hlen hn2) hr hF hb fun H sq => ⟨H, H, [.lst (ns.map .int)], ⟨Ex.refl _, Ex.refl _, rfl, rfl, fun i md dd v h1 h2 h3 => ?_, fun i j l h1 => ?_⟩, ?_⟩
  · match i, h1, h2, h3 with
    | 0, h1, h2, h3 =>
      cases h1
      cases h2
      cases h3
      exact .lst sq (Reps.ints ns)
  · match i, h1 with
    | 0, h1 => cases h1
  · rw [hm ns hlen]
    intro G' B' H' v g k
    cases k with
    | fz r _ => cases r; rfl
end DN
set_option maxHeartbeats 2000000
namespace DN
open PySem PySem.Spec PyProof.Rows L2
open Evl (Ex)
/-- the turns that a while may take -/
def fuel : Nat := 100000
section
variable {X : Cx} {Wx : WX} {e : Expr} {es : List Expr} {st : Stmt} {tg iter : Expr}
def dUE : Env → O R := fun _ => .un
def dUT : Env → O Bool := fun _ => .un
def dUS : Env → O Fl := fun _ => .un
theorem ds_no : DS X Wx [] st (fun _ _ _ => False) dUS := ⟨⟨fun _ _ _ _ _ _ h => h.elim⟩, fun _ _ _ _ _ _ _ _ p => p⟩
theorem io_ok {ms : List Md} {Sb : List Nat} (h : ((List.range ms.length).all fun i => !(decide (ms[i]? = some .io)) || !(decide (i ∈ Sb))) = true) : ∀ i, ms[i]? = some .io → i ∉ Sb := fun i hi hm => by
  have hl : i < ms.length := (List.getElem?_eq_some_iff.mp hi).1
  have q := List.all_eq_true.mp h i (List.mem_range.mpr hl)
  simp [hi, hm] at q
end
section
variable {k j : Nat} {A : Around}
theorem room_1 (r : Room k A) : A.units + 1 < cLine := by have := r.un; omega
theorem room_65 (r : Room k A) : A.units + 65 < cLine := by have := r.un; omega
theorem room_64 (r : Room k A) : A.units + 64 < cLine := by have := r.un; omega
theorem room_66 (r : Room k A) : A.units + 66 < cLine := by have := r.un; omega
end
/-- a def of the module as it is known -/
structure FnI (P : Program) (w : World) (K : PySem.W.Frag) (mg : Str → Option Value) (x : Str) (k : Nat) (ps : List Str) (ms : List Md) (m : List D → FO) (f : Addr) (fd : FuncData) : Prop where
  gl : mg x = some (.ref f)
  kp : PySem.W.keepIn K (.ref f) = true
  bd : Binds K fd ps []
  ok : ∀ base : Heap, FnG P w K mg base k f fd ps (spM K ms m)
section
variable {X : Cx} {Wx : WX} {k j : Nat} {f : Addr} {fd : FuncData} {ps ks : List Str} {x : Str} {p pos : Pos} {e : Expr} {es : List Expr} {t : TA} {fs : Env → O (List R)} {ms : List Md} {m : List D → FO}
theorem de_callI (F : FnI X.prog X.w X.K X.mg x k ps ms m f fd) (hr : Room j X.A) (hj : k ≤ j) (hG : X.A.guards = some []) (tk : Takes X Wx) (hg : Gl X x)
    (ha : DA X Wx (e :: es) t fs) (hdb : (x == ("__debug__" : Str)) = false := by decide) (he : starEach (e :: es) X.env = (false, eval e X.env) :: starEach es X.env := by rfl) (hpl : (backTo pos (starEach es X.env)).any (·.1) = false := by rfl) :
    DE X Wx (.Call (.Name x p) (e :: es) [] pos) (tCallG (spM X.K (ms ++ List.replicate ([] : List D).length .fz) m) [] (WE Wx) t) (dCall ms m [] fs) :=
  de_call (dd := []) (by simpa using F.ok X.base) (hr.mono hj) hG tk hg F.gl F.kp F.bd .nil (fun _ => .nil) ha hdb he hpl
theorem de_callIS {kws : List Keyword} {sw : List Nat} (F : FnI X.prog X.w X.K X.mg x k ps ms m f fd) (hb : KB0 X.K fd ps ks sw) (hr : Room j X.A) (hj : k ≤ j) (hG : X.A.guards = some []) (tk : Takes X Wx) (hg : Gl X x)
    (ha : DK X Wx kws t fs) (hall : (backToKw pos (keywordEach kws X.env)).all (·.1.isSome) = true := by rfl) (hks : (backToKw pos (keywordEach kws X.env)).filterMap (·.1) = ks := by rfl) (hdb : (x == ("__debug__" : Str)) = false := by decide)
    (hpl : ((backTo pos (starEach [] X.env)).any (·.1) || (backToKw pos (keywordEach kws X.env)).any (·.1.isNone)) = false := by rfl) :
    DE X Wx (.Call (.Name x p) [] kws pos) (tCallS ks.length (spM X.K ms m) sw (WE Wx) t) (dCallS ks.length sw ms m fs) :=
  de_callS (F.ok X.base) (hr.mono hj) hG tk hg F.gl F.kp hb ha hall hks hdb hpl
theorem de_globI {i : Int} (hg : Gl X x) (hm : ∃ t, X.mg x = some (.int i t)) (hd : (x == ("__debug__" : Str)) = false := by decide) : DE X Wx (.Name x pos) (tC (.int i)) (dC (.int i)) := by
  obtain ⟨t, ht⟩ := hm
  exact de_glob hg ht ⟨t, rfl⟩ (fun _ => .int) hd
end
/-- the built-ins' names are free -/
structure Bf (mg : Str → Option Value) : Prop where
  len : mg "len" = none
  range : mg "range" = none
  enumerate : mg "enumerate" = none
  zip : mg "zip" = none
  sorted : mg "sorted" = none
  list : mg "list" = none
  tuple : mg "tuple" = none
  int : mg "int" = none
  bool : mg "bool" = none
  str : mg "str" = none
  abs : mg "abs" = none
  max : mg "max" = none
  min : mg "min" = none
  sum : mg "sum" = none
  all : mg "all" = none
  any : mg "any" = none
  repr : mg "repr" = none
  isinstance : mg "isinstance" = none
  divmod : mg "divmod" = none
  set : mg "set" = none
  dict : mg "dict" = none
  ValueError : mg "ValueError" = none
theorem bf_of {K : PySem.W.Frag} {h : Heap} {mg : Str → Option Value} (X : K.In h) (G : h.Ns mainGlobals mg) (c : ∀ f ∈ bfFacts, f.ok K = true) : Bf mg := by
  have q : ∀ x ∈ bfNames, mg x = none := fun x hx => He.free_ok X G (c _ (List.mem_map.mpr ⟨x, hx, rfl⟩))
  exact ⟨q _ (by simp [bfNames]), q _ (by simp [bfNames]), q _ (by simp [bfNames]), q _ (by simp [bfNames]), q _ (by simp [bfNames]), q _ (by simp [bfNames]), q _ (by simp [bfNames]), q _ (by simp [bfNames]), q _ (by simp [bfNames]), q _ (by simp [bfNames]), q _ (by simp [bfNames]), q _ (by simp [bfNames]), q _ (by simp [bfNames]), q _ (by simp [bfNames]), q _ (by simp [bfNames]), q _ (by simp [bfNames]), q _ (by simp [bfNames]), q _ (by simp [bfNames]), q _ (by simp [bfNames]), q _ (by simp [bfNames]), q _ (by simp [bfNames]), q _ (by simp [bfNames])⟩
theorem bb_len : bootBuiltins "len" = some (.builtin "len") := by kernel_rfl
theorem bb_sorted : bootBuiltins "sorted" = some (.builtin "sorted") := by kernel_rfl
theorem bb_list : bootBuiltins "list" = some (.type "list") := by kernel_rfl
theorem bb_tuple : bootBuiltins "tuple" = some (.type "tuple") := by kernel_rfl
theorem bb_int : bootBuiltins "int" = some (.type "int") := by kernel_rfl
theorem bb_bool : bootBuiltins "bool" = some (.type "bool") := by kernel_rfl
theorem bb_abs : bootBuiltins "abs" = some (.builtin "abs") := by kernel_rfl
theorem bb_max : bootBuiltins "max" = some (.builtin "max") := by kernel_rfl
theorem bb_min : bootBuiltins "min" = some (.builtin "min") := by kernel_rfl
theorem bb_sum : bootBuiltins "sum" = some (.builtin "sum") := by kernel_rfl
theorem bb_all : bootBuiltins "all" = some (.builtin "all") := by kernel_rfl
theorem bb_repr : bootBuiltins "repr" = some (.builtin "repr") := by kernel_rfl
theorem bb_isinstance : bootBuiltins "isinstance" = some (.builtin "isinstance") := by kernel_rfl
def gMulI : D → D → Option R := iI okMul fun i j => i * j
theorem iop_mulA {X : Cx} : OpR X (inplaceOp .Mult) (rI (fun i j => okMul i j = true) fun i j => .int (i * j)) := opI fun _ _ _ _ _ _ _ hc q => imul_int q (CMulA hc)
theorem s_mulI {K : PySem.W.Frag} : OpSound K gMulI (rI (fun i j => okMul i j = true) fun i j => .int (i * j)) := sd_I fun _ _ h => h
def gAddI : D → D → Option R := iI (fun _ _ => true) fun i j => i + j
theorem bind_full {K : PySem.W.Frag} {fd : FuncData} {ps : List Str} (h : ∃ ds, Vals [] ds ∧ Binds K fd ps ds) : Binds K fd ps [] := by
  obtain ⟨ds, v, b⟩ := h
  cases v
  exact b
theorem says_all {fa : List He.Fa} {fn : List He.DefD} {K : PySem.W.Frag} (c : He.SaysD fa fn K) : ∀ f ∈ fa, f.ok K = true := fun f hf => by
  obtain ⟨i, hi⟩ := List.getElem?_of_mem hf
  exact He.SaysD.fact c i hi
end DN
set_option maxHeartbeats 2000000
namespace DN
open PySem PySem.Spec PyProof.Rows L2
open Evl (Ex)
section
variable {K : PySem.W.Frag} {X : Cx} {Wx : WX} {e : Expr} {f : Env → O R} {pos p : Pos} {ta : TE}
/-- xs[lo:hi:st] -/
def pickL {α : Type} (xs : List α) (lo hi st : Option Int) : List α :=
  (sliceRange (sliceBounds lo hi st xs.length).1 (sliceBounds lo hi st xs.length).2.1 (sliceBounds lo hi st xs.length).2.2).filterMap (xs[·]?)
def gPk (x : D) (lo hi st : Option Int) : Option R := match x with
  | .lst ds => if (decide (st ≠ some 0) && decide ((pickL ds lo hi st).length ≤ 100000)) = true then some (.own (.lst (pickL ds lo hi st))) else none
  | _ => none
def dPk (f : Env → O R) (lo hi st : Env → O (Option Int)) : Env → O R := fun ρ => (dN f ρ).bind fun ρ r => (lo ρ).bind fun ρ l => (hi ρ).bind fun ρ u => (st ρ).bind fun ρ s => (use1 ρ r).bind fun ρ d => ret ρ (gPk d l u s)
def tS (K : PySem.W.Frag) (Wx : WX) (f : Env → O R) : TE := fun σ H Q => ∃ L G B ρ, OkS K L G B H σ ρ ∧ Post K Wx L G B σ (f ρ) (fun ρ' r G' B' H' => ∀ v, OkVs K L G' H' σ ρ' B' [r] [v] → Q v H')
theorem DE.star {t : TE} (h : DE X Wx e t f) : DE X Wx e (tS X.K Wx f) f :=
  ⟨⟨fun pins s σ H Q I ⟨L, G, B, ρ, ok, p⟩ => h.1.run pins s σ H Q I (h.2 L G B H σ ρ Q ok p)⟩, fun L G B H σ ρ Q s p => ⟨L, G, B, ρ, s, p⟩⟩
def tTS (K : PySem.W.Frag) (Wx : WX) (f : Env → O Bool) : TT := fun σ H Q => ∃ L G B ρ, OkS K L G B H σ ρ ∧ Post K Wx L G B σ (f ρ) (fun ρ' b G' B' H' => OkS K L G' B' H' σ ρ' → Q b H')
theorem DIfs.star {es : List Expr} {t : TT} {f : Env → O Bool} (h : DIfs X Wx es t f) : DIfs X Wx es (tTS X.K Wx f) f :=
  ⟨⟨fun pins s σ H Q I ⟨L, G, B, ρ, ok, p⟩ => h.1.run pins s σ H Q I (h.2 L G B H σ ρ Q ok p)⟩, fun L G B H σ ρ Q s p => ⟨L, G, B, ρ, s, p⟩⟩
def gS (K : PySem.W.Frag) (S : List Nat) (g : Env → R → O Unit) : TG := fun v σ H Q => ∃ L G B ρ r ρ' u, OkVs K L G H σ ρ B [r] [v] ∧ g ρ r = .ok ρ' u ∧ ∀ G' B' σ', Grow G B G' B' → Stay S σ σ' → OkS K L G' B' H σ' ρ' → Q σ' H
theorem DG.star {tg : Expr} {S : List Nat} {t : TG} {g : Env → R → O Unit} (h : DG X S tg t g) : DG X S tg (gS X.K S g) g :=
  ⟨⟨fun pins s σ H v u Q I r ⟨L, G, B, ρ, z, ρ', u', k, e, q⟩ => h.1.run pins s σ H v u Q I r (h.2.1 L G B H σ ρ z v Q ρ' u' k e q)⟩, fun L G B H σ ρ r v Q ρ' u k e q => ⟨L, G, B, ρ, r, ρ', u, k, e, q⟩, h.2.2⟩
variable {tg elt iter : Expr} {ifs : List Expr} {wi : TI} {fi : Env → O (List R)} {scope : Scope} {own : List (Str × Nat)} {S : List Nat} {g : Env → R → O Unit} {ft : Env → O Bool} {fe : Env → O R}
theorem de_lcX (hc : X.calm = true) (hN : X.N.Nodup) (hi : DI X Wx tg iter wi fi) (ok : BlkOk X.N X.env.scope scope own) (hg : Blk X scope fun Y => ∃ g0, DG Y S tg g0 g) (ht : Blk X scope fun Y => ∃ tt, DIfs Y W0 ifs tt ft) (he : Blk X scope fun Y => ∃ te, DE Y W0 elt te fe)
    (hsub : ∀ i, i ∈ S → i ∈ own.map (·.2) := by decide) (hs : ∀ x, foldedSetIterable iter X.env x = pure x := by intro _; rfl) : DE X Wx (.ListComp elt [⟨tg, iter, ifs, 0⟩] scope pos) (tLc wi (gS X.K S g) (tTS X.K W0 ft) (tS X.K W0 fe) (own.map (·.2))) (dLc fi g ft fe (own.map (·.2))) :=
  de_lc hc hN hi ok (fun s H C cl fp => let ⟨_, h⟩ := hg s H C cl fp; h.star) (fun s H C cl fp => let ⟨_, h⟩ := ht s H C cl fp; h.star) (fun s H C cl fp => let ⟨_, h⟩ := he s H C cl fp; h.star) hsub hs
theorem ds_setLcX {i : Nat} {y : Str} {py spos : Pos} (hc : X.calm = true) (hN : X.N.Nodup) (hy : X.N[i]? = some y) (hyl : X.env.scope.names.lookup y = some .local)
    (hsw : swapsWith (.ListComp elt [⟨tg, iter, ifs, 0⟩] scope pos) (some (.Name y py)) spos.line X.env = pure true) (hi : DI X Wx tg iter wi fi) (ok : BlkOk X.N X.env.scope scope own) (hg : Blk X scope fun Y => ∃ g0, DG Y S tg g0 g) (ht : Blk X scope fun Y => ∃ tt, DIfs Y W0 ifs tt ft) (he : Blk X scope fun Y => ∃ te, DE Y W0 elt te fe)
    (hsub : ∀ i, i ∈ S → i ∈ own.map (·.2) := by decide) (hs : ∀ x, foldedSetIterable iter X.env x = pure x := by intro _; rfl) : DS X Wx [i] (.Assign [.Name y py] (.ListComp elt [⟨tg, iter, ifs, 0⟩] scope pos) spos) (tAsg (tLc wi (gS X.K S g) (tTS X.K W0 ft) (tS X.K W0 fe) (own.map (·.2))) (gName i)) (dAsg (store i) (dLc fi g ft fe (own.map (·.2)))) :=
  ds_setLc hc hN hy hyl hsw hi ok (fun s H C cl fp => let ⟨_, h⟩ := hg s H C cl fp; h.star) (fun s H C cl fp => let ⟨_, h⟩ := ht s H C cl fp; h.star) (fun s H C cl fp => let ⟨_, h⟩ := he s H C cl fp; h.star) hsub hs
end
end DN
set_option maxHeartbeats 2000000
namespace DN
open PySem PySem.Spec PyProof.Rows L2
open Evl (Ex)
theorem OkVs.unlend {K : PySem.W.Frag} {L : Lent} {G B G' B1 H' : Hp} {σ : L2.St} {ρ : Env} {j : Nat} {l : Addr} {o : HO} {d : D} {rs : List R} {vs : List V} (gb : Ex G B) (lb : LB L B) (b0 : B l = none) (h1 : σ[j]? = some (some (.ref l))) (h4 : RepO K G d o)
    (k : OkVs K (L.more j l o) G' H' σ ρ B1 rs vs) : Grow G (upd B l o) G' B1 → OkVs K L G' H' σ (ρ.set j (.own d)) (del B1 l) rs vs := by
  induction k with
  | nil s => intro gr; exact .nil (s.unlend gb lb b0 gr h1 h4)
  | fz a _ ih => intro gr; exact .fz a (ih gr)
  | bor a _ ih => intro gr; exact .bor a (ih gr)
  | @own B1 m u dd rs vs g0 l0 b1 a k ih =>
    intro gr
    have hm : m ≠ l := fun z => by subst z; rw [gr.bb m o upd_same] at b1; cases b1
    have nl : NL L m := fun i o' q => by
      have q1 := lb i m o' q
      have q2 := gr.bb m o' (by rw [upd_ne hm]; exact q1)
      rw [b1] at q2; cases q2
    refine .own g0 nl (by rw [del_ne hm]; exact b1) a ?_
    have e : upd (del B1 l) m u = del (upd B1 m u) l := by
      funext x; unfold upd del
      by_cases h1 : x = m
      · subst h1; simp [hm]
      · by_cases h2 : x = l <;> simp [h1, h2, Ne.symm hm]
    rw [e]
    exact ih ⟨gr.bb.trans (Ex.new b1), gr.fr⟩
  | @tp B1 m qs ws rs vs g0 l0 b1 n k ih =>
    intro gr
    have hm : m ≠ l := fun z => by subst z; rw [gr.bb m o upd_same] at b1; cases b1
    have nl : NL L m := fun i o' q => by
      have q1 := lb i m o' q
      have q2 := gr.bb m o' (by rw [upd_ne hm]; exact q1)
      rw [b1] at q2; cases q2
    refine .tp g0 nl (by rw [del_ne hm]; exact b1) n ?_
    have e : upd (del B1 l) m (.tup ws) = del (upd B1 m (.tup ws)) l := by
      funext x; unfold upd del
      by_cases h1 : x = m
      · subst h1; simp [hm]
      · by_cases h2 : x = l <;> simp [h1, h2, Ne.symm hm]
    rw [e]
    exact ih ⟨gr.bb.trans (Ex.new b1), gr.fr⟩
def unlendO {α : Type} (j : Nat) (d : D) : O α → O α
  | .ok ρ a => .ok (ρ.set j (.own d)) a
  | .er ρ e => .er (ρ.set j (.own d)) e
  | .un => .un
def dLend (j : Nat) (f : Env → O R) : Env → O R := fun ρ => match ρ[j]? with
  | some (.own d) => unlendO j d (f (ρ.set j (.ln d)))
  | _ => f ρ
def dLendS (j : Nat) (f : Env → O Fl) : Env → O Fl := fun ρ => match ρ[j]? with
  | some (.own d) => unlend j d (f (ρ.set j (.ln d)))
  | _ => f ρ
section
variable {K : PySem.W.Frag} {X : Cx} {Wx : WX} {e tg : Expr} {f : Env → O R} {pos p : Pos} {ta : TE} {st : Stmt} {t : TS} {fs : Env → O Fl} {S : List Nat}
theorem SemE.lend (j : Nat) (h : SemE X Wx ta f) : SemE X Wx ta (dLend j f) := fun L G B H σ ρ Q s p => by
  unfold dLend at p
  cases ej : ρ[j]? with
  | none => simp only [ej] at p; exact h L G B H σ ρ Q s p
  | some x =>
    cases x with
    | un => simp only [ej] at p; exact h L G B H σ ρ Q s p
    | fz _ => simp only [ej] at p; exact h L G B H σ ρ Q s p
    | ln _ => simp only [ej] at p; exact h L G B H σ ρ Q s p
    | own d =>
      simp only [ej] at p
      obtain ⟨l, o, h1, h2, h3, h4⟩ := s.ow j d ej
      have back : ∀ {G' B' : Hp}, Grow G (upd B l o) G' B' → Grow G B G' (del B' l) := fun {G' B'} gr => ⟨ex_del gr.bb h2, fun a u ha => gr.fr a u (by rw [upd_ne (ne_of_none ha h2)]; exact ha)⟩
      refine h (L.more j l o) G (upd B l o) H σ (ρ.set j (.ln d)) Q (s.lend ej h1 h2 h3 h4) ?_
      cases ef : f (ρ.set j (.ln d)) with
      | un => rw [ef] at p; exact p
      | er ρ' e' =>
        rw [ef] at p
        exact fun G' B' H' c d' gr s' oe => p G' (del B' l) H' c d' (back gr) (s'.unlend s.gb s.lb h2 gr h1 h4) oe
      | ok ρ' r =>
        rw [ef] at p
        exact fun G' B' H' gr v k => p G' (del B' l) H' (back gr) v (OkVs.unlend s.gb s.lb h2 h1 h4 k gr)
theorem de_lend (j : Nat) (h : DE X Wx e ta f) : DE X Wx e ta (dLend j f) := ⟨h.1, h.2.lend j⟩
theorem ds_lend (j : Nat) (h : DS X Wx S st t fs) (hj : j ∉ S := by decide) : DS X Wx S st t (dLendS j fs) := ⟨h.1, fun L G B H σ ρ D s p => by
  unfold dLendS at p
  cases ej : ρ[j]? with
  | none => simp only [ej] at p; exact h.2 L G B H σ ρ D s p
  | some x =>
    cases x with
    | un => simp only [ej] at p; exact h.2 L G B H σ ρ D s p
    | fz _ => simp only [ej] at p; exact h.2 L G B H σ ρ D s p
    | ln _ => simp only [ej] at p; exact h.2 L G B H σ ρ D s p
    | own d =>
      simp only [ej] at p
      obtain ⟨l, o, h1, h2, h3, h4⟩ := s.ow j d ej
      exact h.2 (L.more j l o) G (upd B l o) H σ (ρ.set j (.ln d)) D (s.lend ej h1 h2 h3 h4) (post_unlend s.gb s.lb h1 h2 h4 hj p)⟩
/-- what stands in a slot that is read alone -/
def lnD (ρ : Env) (j : Nat) : Option D := match ρ[j]? with
  | some (.ln d) => some d
  | some (.fz d) => some d
  | _ => none
theorem OkS.lnTop {L : Lent} {G B H : Hp} {σ : L2.St} {ρ : Env} {j : Nat} {d : D} (s : OkS K L G B H σ ρ) (h : lnD ρ j = some d) : ∃ v, σ[j]? = some (some v) ∧ Top K G B d v := by
  unfold lnD at h
  split at h
  · rename_i d' e
    cases h
    obtain ⟨v, h1, h2⟩ := s.ln j _ e
    refine ⟨v, h1, ?_⟩
    rcases h2 with h2 | ⟨l, o, rfl, h3, h4⟩
    · exact h2.top s.gb
    · exact h4.top (s.lb _ _ _ h3)
  · rename_i d' e
    cases h
    obtain ⟨v, h1, h2⟩ := s.fz j _ e
    exact ⟨v, h1, h2.top s.gb⟩
  · cases h
def dItLn (j : Nat) : Env → O (List R) := fun ρ => match (lnD ρ j).bind itemsOf with
  | some rs => .ok ρ rs
  | none => .un
theorem di_ln {x : Str} {px : Pos} (j : Nat) (hN : X.N[j]? = some x := by rfl) (hv : Vis X.env.scope x := by first | exact Or.inl rfl | exact Or.inr (Or.inl rfl) | exact Or.inr (Or.inr rfl)) (hd : (x == ("__debug__" : Str)) = false := by decide)
    (hcd : (x == ("__classdict__" : Str)) = false := by decide) : DI X Wx tg (.Name x px) (iAny X.K (tVar j)) (dItLn j) := by
  refine ⟨pi_any (pe_var hN hv hd hcd), fun L G B H σ ρ Z s p => ?_⟩
  unfold dItLn at p
  cases e : lnD ρ j with
  | none => simp only [e, Option.bind_none] at p; exact p.elim
  | some d =>
    simp only [e, Option.bind_some] at p
    obtain ⟨v, hv, t⟩ := s.lnTop e
    refine ⟨v, hv, ?_⟩
    cases t <;> simp only [itemsOf] at p <;> try exact p.elim
    · exact .inr (.inr ⟨_, rfl, Post.okD p H s _ src_str⟩)
    · rename_i ha hr
      exact .inl ⟨_, _, rfl, (ha.mono s.bh).sql, Post.okD p H s _ (src_list (fun H e => (ha.mono e).sql) hr s.gb)⟩
    · rename_i ha hr
      exact .inr (.inl ⟨_, _, rfl, Evl.ex_t s.bh ha, Post.okD p H s _ (src_tup (fun H e => Evl.ex_t e ha) hr s.gb)⟩)
def dEnLn (j : Nat) : Env → O (List R) := fun ρ => match lnD ρ j with
  | some (.lst ds) => .ok ρ (enumItems ds)
  | _ => .un
theorem di_enumLn {x : Str} {px : Pos} {elts : List Expr} {kk : Nat} {tpos : Pos} (j : Nat) (hg : Gl X "enumerate") (hm : X.mg "enumerate" = none) (hN : X.N[j]? = some x := by rfl)
    (hv : Vis X.env.scope x := by first | exact Or.inl rfl | exact Or.inr (Or.inl rfl) | exact Or.inr (Or.inr rfl)) (hd : (x == ("__debug__" : Str)) = false := by decide)
    (hcd : (x == ("__classdict__" : Str)) = false := by decide) (hs : starEach [.Name x px] X.env = [(false, eval (.Name x px) X.env)] := by rfl) :
    DI X Wx (.Tuple elts kk tpos) (.Call (.Name "enumerate" p) [.Name x px] [] pos) (iEnum X.K (tCons (tVar j) tNil)) (dEnLn j) := by
  refine ⟨pi_enum hg hm (pa_cons (pe_var hN hv hd hcd) pa_nil hs) hs, fun L G B H σ ρ Z s p => ?_⟩
  unfold dEnLn at p
  cases e : lnD ρ j with
  | none => simp only [e] at p; exact p.elim
  | some d =>
    obtain ⟨v, hv, t⟩ := s.lnTop e
    cases d <;> simp only [e] at p <;> try exact p.elim
    cases t with
    | lst ha hr => exact ⟨_, hv, _, _, rfl, (ha.mono s.bh).sql, Post.okD p H s _ (src_enum (fun H e => (ha.mono e).sql) hr s.gb)⟩
end
end DN
set_option maxHeartbeats 2000000
namespace DN
open PySem PySem.Spec PyProof.Rows L2
open Evl (Ex)
section
variable {K : PySem.W.Frag} {X : Cx}
def gEqS (x y : D) : Option R := match x, y with
  | .str a, .str b => some (.fz (.bl (decide (a = b))))
  | _, _ => none
def gNeS (x y : D) : Option R := match x, y with
  | .str a, .str b => some (.fz (.bl (!decide (a = b))))
  | _, _ => none
theorem str_dec {a b : Str} : decide (V.str a = V.str b) = decide (a = b) := by
  rw [Bool.eq_iff_iff]
  simp
theorem s_eqS : OpSound K gEqS rEq := by
  intro G H x y v u z Q _ tx ty e q
  unfold gEqS at e
  split at e
  · cases e
    cases tx
    cases ty
    exact ⟨rfl, by rw [str_dec]; exact q _ .bl⟩
  · cases e
theorem s_neS : OpSound K gNeS rNe := by
  intro G H x y v u z Q _ tx ty e q
  unfold gNeS at e
  split at e
  · cases e
    cases tx
    cases ty
    exact ⟨rfl, by rw [str_dec]; exact q _ .bl⟩
  · cases e
def gEq2 : D → D → Option R := orE gEqS gEq
def gNe2 : D → D → Option R := orE gNeS gNe
def rEq2 (K : PySem.W.Frag) : R2 := fun x y H Q => rEq x y H Q ∨ rEqD K x y H Q
def rNe2 (K : PySem.W.Frag) : R2 := fun x y H Q => rNe x y H Q ∨ rNeD K x y H Q
theorem op_eq2 (hu : X.A.units + 64 < cLine) : OpR X (compareOp .Eq) (rEq2 X.K) := OpR.or op_eq (op_eqD hu)
theorem op_ne2 (hu : X.A.units + 64 < cLine) : OpR X (compareOp .NotEq) (rNe2 X.K) := OpR.or op_ne (op_neD hu)
theorem s_eq2 : OpSound K gEq2 (rEq2 K) := OpSound.or s_eqS s_eq
theorem s_ne2 : OpSound K gNe2 (rNe2 K) := OpSound.or s_neS s_ne
end
end DN
namespace DN
open PySem PySem.Spec PyProof.Rows L2
def isB : V → Bool → Bool
  | .bl c, b => c == b
  | _, _ => false
def isBD : D → Bool → Bool
  | .bl c, b => c == b
  | _, _ => false
theorem isB_top {K : PySem.W.Frag} {G H : Hp} {x : D} {v : V} {b : Bool} (h : Top K G H x v) : isB v b = isBD x b := by
  cases h <;> rfl
theorem op_notB {X : Cx} : OpR X (compareOp .IsNot) (fun x y H Q => ∃ b, y = .bl b ∧ Q (.bl (!isB x b)) H) := by
  intro pins s σ H x y v u Q I rx ry ⟨b, ey, q⟩
  subst ey
  cases ry
  have hp : plainIs v (.bool b) = true ∧ (v == .bool b) = isB x b := by
    cases x with
    | bl c => cases rx; exact ⟨rfl, by cases b <;> cases c <;> rfl⟩
    | _ => first
      | (cases rx; exact ⟨rfl, rfl⟩)
      | (obtain ⟨t, rfl⟩ := rx; exact ⟨rfl, rfl⟩)
  exact wpAny_isNot_plain hp.1 (fin_bl I q (by rw [hp.2]))
def gIsB (x y : D) : Option R := match y with
  | .bl b => some (.fz (.bl (isBD x b)))
  | _ => none
def gNotB (x y : D) : Option R := match y with
  | .bl b => some (.fz (.bl (!isBD x b)))
  | _ => none
theorem s_notB {K : PySem.W.Frag} : OpSound K gNotB (fun x y H Q => ∃ b, y = .bl b ∧ Q (.bl (!isB x b)) H) := by
  intro G H x y v u z Q e hx hy g r
  unfold gNotB at g
  split at g
  · rename_i b
    cases g
    cases hy
    exact ⟨b, rfl, by rw [isB_top hx]; exact r _ .bl⟩
  · cases g
end DN
namespace DN
open PySem PySem.Spec PyProof.Rows L2
/-- the different ones of a list, each where it is met first -/
def met (ns : List Int) : List Int := firstMet (fun i => ns.getD i 0) ns.length
def rLenSet (K : PySem.W.Frag) (x : V) (H : Hp) (Q : VK) : Prop := ∃ (l : Addr) (ns : List Int), x = .ref l ∧ SqL K H l (ns.map V.int) ∧ ns.length ≤ 4000 ∧ Q (.int ((met ns).length : Nat)) H
theorem ints_are : ∀ {ns : List Int} {us : List Value}, Vals (ns.map V.int) us → IntsAre us ns
  | [], _, .nil => .nil
  | n :: _, _, .cons ⟨k, e⟩ t => by subst e; exact .cons n k (ints_are t)
theorem pe_lenSetG {X : Cx} {a : Expr} {ta : TE} {p p2 q pos : Pos} (hc : X.calm = true) (hg : Gl X "len") (hm : X.mg "len" = none) (hg2 : Gl X "set") (hm2 : X.mg "set" = none) (ha : PE X a ta)
    (na : starEach [a] X.env = (false, eval a X.env) :: starEach [] X.env := by rfl) : PE X (.Call (.Name "len" p) [.Call (.Name "set" p2) [a] [] q] [] pos) (tUn (rLenSet X.K) ta) := by
  constructor
  intro pins s σ H Q I h
  refine Call_ (ld_blt I hg hm boot_len ?_)
  apply callWith_builtin1 (args_cons _ rfl) rfl rfl
  refine Call_ (ld_blt I hg2 hm2 boot_set ?_)
  apply callWith_type1 (args_cons (thn (ha.run pins s σ H _ I h) _) na) na rfl
  rintro v s1 ⟨x, H1, I1, r1, l, ns, rfl, hq, hl, q1⟩
  apply args_nil
  cases r1
  obtain ⟨its, r, pl, hz⟩ := I1.list hq
  have sz : its.toArray.size = ns.length := List.size_toArray.trans (r.length.symm.trans (List.length_map _))
  refine call_set_list (I1.ok.hd hc) pl.isList (by simpa using ints_are r) (by rw [sz]; unfold scanBound; omega) ?_
  intro h' tk hS hk
  apply args_nil
  rw [sz] at hS
  obtain ⟨o, es, ep, t, ho, hex, hd, _, _, _, hf, hn⟩ := hS
  have hn : es.size = (met ns).length := hn
  have bd : (met ns).length ≤ ns.length := firstMet_length_le _ _
  have I2 : Inv X pins σ H1 { s1 with heap := h', toks := tk } := I1.kept fun b o e => hk b o (Heap.lt_size e) e
  exact call_len_set ho hex hd hf (by rw [hn]; omega) ⟨.int (met ns).length, H1, I2.tok _, ⟨_, by rw [hn]⟩, q1⟩
def gLenSet : D → Option R
  | .lst ds => (intsD ds).bind fun ns => if ns.length ≤ 4000 then some (.fz (.int ((met ns).length : Nat))) else none
  | _ => none
theorem s_lenSet {K : PySem.W.Frag} : UnSound K gLenSet (rLenSet K) := by
  intro G H x v z Q hG t e q
  unfold gLenSet at e
  split at e
  · obtain ⟨ns, en, e⟩ := Option.bind_eq_some_iff.mp e
    split at e
    · rename_i hl
      cases e
      cases t with
      | lst a r =>
        rw [intsD_eq en] at r
        have ev := r.ints_inv
        subst ev
        exact ⟨_, ns, rfl, a.sql, hl, q _ .int⟩
    · cases e
  · cases e
theorem de_lenSet {X : Cx} {W : WX} {a : Expr} {ta : TE} {f : Env → O R} {p p2 q pos : Pos} (hc : X.calm = true) (hg : Gl X "len") (hm : X.mg "len" = none) (hg2 : Gl X "set") (hm2 : X.mg "set" = none) (ha : DE X W a ta f)
    (na : starEach [a] X.env = (false, eval a X.env) :: starEach [] X.env := by rfl) : DE X W (.Call (.Name "len" p) [.Call (.Name "set" p2) [a] [] q] [] pos) (tUn (rLenSet X.K) ta) (dUn gLenSet f) :=
  ⟨pe_lenSetG hc hg hm hg2 hm2 ha.1 na, one s_lenSet ha.2⟩
end DN
namespace L2
open PySem PySem.Spec PyProof.Rows
section
variable {P : Program} {w : World} {A : Around} {E : Value → Shared → Prop} {s : Shared}
/-- the empty set, as the call makes it -/
abbrev emS (w : World) : Obj := { cls := .type "set", dict := none, data := .set #[] 0 (.fresh 0 0 (!w.params.followText "set-order")) }
/-- set(xs), a list of ints: with what sorted() asks of it -/
theorem call_set_lst {l : Addr} {items : Array Value} (ns : List Int) {Q : Value → Shared → Prop} (hh : A.handled = none) (hl : s.heap.IsList l items) (hit : IntsAre items.toList ns) (hb : ns.length + 1 < scanBound)
    (h : ∀ (h' : Heap) (tk c : Nat), SetR w h' s.heap.objs.size (fun j => decide (j ∈ ns)) c → c ≤ ns.length → (∀ b o, s.heap.get? b = some o → h'.get? b = some o) → Q (.ref s.heap.objs.size) { s with heap := h', toks := tk }) :
    wpAny (model P w) A (call (.type "set") [.ref l]) Q E s := by
  have hisz : items.size = ns.length := by
    rw [← IntsAre.length hit, Array.length_toList]
  obtain ⟨c, tl, hmro⟩ := F.called_set.mro
  have hmade := F.called_set.made
  have hsub := F.called_set.sub
  have h1 := F.called_set.notType
  have h2 := F.called_set.canCreate
  have hct := F.typeCall_set_1 (.ref l)
  refine wpAny_call (codeAny_of_tree ?_)
  show wpAny _ _ (callAny (.type "set") _) _ _ _
  refine wpAny_pure ⟨Code.quiet_builtin _ (by decide +kernel), codeAny_builtin F.entry_type_call ?_⟩
  rw [Around.under_plain (weight_type_call_type "set" [.ref l] []) rfl]
  repeat (any_goals (first | assumption | wp_step))
  refine codeAny_mono (code_set_led1 (.ref l) (E := E) (Q₁ := fun obj s₁ => obj = .ref s.heap.objs.size ∧ s₁ = { s with heap := s.heap.push (emS w) }) ⟨rfl, rfl⟩) fun r s₁ hr => ?_
  cases r with
  | error e => exact hr
  | ok fl =>
    cases fl with
    | ret obj =>
      obtain ⟨rfl, rfl⟩ := hr
      have hS : (s.heap.push (emS w)).get? s.heap.objs.size = some (emS w) := Heap.get?_push_size _ rfl
      have hT : Shared.TypeIs { s with heap := s.heap.push (emS w) } (.ref s.heap.objs.size) "set" := ⟨_, hS, rfl⟩
      have hli := F.called_set.init.lookup
      have hbi := F.called_set.init.bind (.ref s.heap.objs.size)
      repeat (any_goals (first | assumption | wp_step))
      refine codeAny_mono (codeAny_call_builtin (R := wants (fun r s₂ => r = .none ∧ ∃ h' tk c, s₂ = { s with heap := h', toks := tk } ∧ SetR w h' s.heap.objs.size (fun j => decide (j ∈ ns)) c ∧ c ≤ ns.length ∧
          (∀ b o, s.heap.get? b = some o → h'.get? b = some o)) E) F.called_set.init.plain F.entry_set_init (check_set_init_1 hT ?_)) fun r₂ s₂ hr₂ => ?_
      · obtain ⟨ol, hol, hcl, nl, hdl⟩ := hl
        obtain ⟨ocls, odict, odata, oslots⟩ := ol
        simp only at hcl hdl
        subst hcl hdl
        have hol' : (s.heap.push (emS w)).get? l = some { cls := .type "list", dict := odict, data := .seq items nl, slots := oslots } := Heap.get?_push_of_some _ hol
        have hsls := F.sub_list_set
        have hslf := F.sub_list_frozenset
        have hne : (Value.type "list" == Value.type "dict") = false := by decide
        have hl1 : (s.heap.push (emS w)).IsList l items := ⟨_, hol', rfl, nl, rfl⟩
        unfold Builtin.«set.__init__» noKeywords Builtin.Frozenset.updateFrom
        generalize hPI : pyIter = PI
        wp_walk
        subst hPI
        refine wpAny_pyIter_list hl1 (wpAny_bind (wpAny_runValue ?_))
        have hlS : l < s.heap.objs.size := Heap.lt_size hol
        have hneI : l ≠ (s.heap.push (emS w)).objs.size := by
          rw [Heap.size_push]; exact Nat.ne_of_lt (Nat.lt_succ_of_lt hlS)
        have hSf : s.heap.objs.size ∉ [(s.heap.push (emS w)).objs.size, l] := by
          rw [Heap.size_push]
          simp only [List.mem_cons, List.not_mem_nil, or_false, not_or]
          exact ⟨Nat.ne_of_lt (Nat.lt_succ_self _), Nat.ne_of_gt hlS⟩
        have hval : ∀ (i : Nat) (v : Value), items[i]? = some v → ∃ k t, ns[i]? = some k ∧ v = .int k t := fun i v hv => by
          have hi : i < ns.length := by rw [← hisz]; exact (Array.getElem?_eq_some_iff.mp hv).1
          obtain ⟨t, e⟩ := IntsAre.int_at hit i v (by rw [Array.getElem?_toList]; exact hv)
          exact ⟨ns[i], t, List.getElem?_eq_getElem hi, by rw [e, List.getD_eq_getElem?_getD, List.getElem?_eq_getElem hi] <;> rfl⟩
        refine set_update_ints ((Walks.list (by simp [hh]) _ l hneI items).toS) s.heap.objs.size
          hSf ns hisz hb hval (items.size - 0) 0 _ (by omega) (Nat.zero_le _)
          ⟨⟨_, Heap.get?_push_size _ rfl, rfl, rfl⟩, (hl1.push _)⟩ ⟨0, Nat.le_refl 0, setR_new_at (Heap.get?_push_of_some _ hS)⟩ ?_
        intro s' c' hm hc' hS'
        obtain ⟨h', g2, d', tk', os'⟩ := s'
        have eg : g2 = s.gens := hm.gens
        have ed : d' = s.drawn := hm.drawn
        have eo : os' = s.os := hm.os
        subst eg ed eo
        show wpAny _ _ _ _ _ _
        refine wpAny_pure ?_
        show wpAny _ _ (ret Value.none) _ _ _
        rw [hisz] at hc'
        refine wpAny_pure ⟨rfl, h', tk', c', rfl, hS', hc', fun b o e => ?_⟩
        have hb0 : b < s.heap.objs.size := Heap.lt_size e
        exact hm.heap b o (by rw [Heap.size_push]; simp only [List.mem_cons, List.not_mem_nil, or_false, not_or]; exact ⟨Nat.ne_of_lt hb0, Nat.ne_of_lt (Nat.lt_succ_of_lt hb0)⟩) (Heap.get?_push_of_some _ (Heap.get?_push_of_some _ e))
      · cases r₂ with
        | error e => exact hr₂
        | ok fl₂ =>
          cases fl₂ with
          | ret r =>
            obtain ⟨rfl, h', tk, c', rfl, hS', hc', hk'⟩ := hr₂
            repeat (any_goals (first | assumption | wp_step))
            exact h _ _ _ hS' hc' hk'
          | _ => exact hr₂.elim
    | _ => exact hr.elim
end
end L2
namespace DN
open PySem PySem.Spec PyProof.Rows L2
/-- put into a list that ascends -/
def insS (x : Int) : List Int → List Int
  | [] => [x]
  | y :: r => if x < y then x :: y :: r else if x = y then y :: r else y :: insS x r
/-- the different ones, ascending -/
def sset (ns : List Int) : List Int := ns.foldr insS []
theorem mem_insS {x k : Int} : ∀ {r : List Int}, k ∈ insS x r ↔ k = x ∨ k ∈ r
  | [] => by simp [insS]
  | y :: r => by
    unfold insS
    split
    · simp
    · split
      · rename_i h
        subst h
        simp
      · simp [mem_insS (r := r)]
        constructor
        · rintro (h | h | h) <;> simp [h]
        · rintro (h | h | h) <;> simp [h]
theorem insS_lt {x : Int} : ∀ {r : List Int}, r.Pairwise (· < ·) → (insS x r).Pairwise (· < ·)
  | [], _ => by simp [insS]
  | y :: r, h => by
    obtain ⟨h1, h2⟩ := List.pairwise_cons.mp h
    unfold insS
    split
    · rename_i q
      exact List.pairwise_cons.mpr ⟨fun z hz => (List.mem_cons.mp hz).elim (fun e => by omega) fun hz => by have := h1 z hz; omega, h⟩
    · split
      · exact h
      · exact List.pairwise_cons.mpr ⟨fun z hz => (mem_insS.mp hz).elim (fun e => by omega) (h1 z), insS_lt h2⟩
theorem mem_sset {k : Int} : ∀ {ns : List Int}, k ∈ sset ns ↔ k ∈ ns
  | [] => by simp [sset]
  | n :: ns => by
    show k ∈ insS n (sset ns) ↔ _
    rw [mem_insS, mem_sset, List.mem_cons]
theorem sset_lt : ∀ (ns : List Int), (sset ns).Pairwise (· < ·)
  | [] => List.Pairwise.nil
  | n :: ns => insS_lt (sset_lt ns)
theorem asc_uniq : ∀ {xs ys : List Int}, xs.Pairwise (· < ·) → ys.Pairwise (· < ·) → (∀ k, k ∈ xs ↔ k ∈ ys) → xs = ys
  | [], [], _, _, _ => rfl
  | [], y :: ys, _, _, h => by have := (h y).mpr List.mem_cons_self; simp at this
  | x :: xs, [], _, _, h => by have := (h x).mp List.mem_cons_self; simp at this
  | x :: xs, y :: ys, h1, h2, h => by
    obtain ⟨a1, a2⟩ := List.pairwise_cons.mp h1
    obtain ⟨b1, b2⟩ := List.pairwise_cons.mp h2
    have e : x = y := by
      rcases List.mem_cons.mp ((h x).mp List.mem_cons_self) with e | e
      · exact e
      · rcases List.mem_cons.mp ((h y).mpr List.mem_cons_self) with e2 | e2
        · exact e2.symm
        · have := b1 x e
          have := a1 y e2
          omega
    subst e
    congr 1
    refine asc_uniq a2 b2 fun k => ⟨fun q => ?_, fun q => ?_⟩
    · rcases List.mem_cons.mp ((h k).mp (List.mem_cons_of_mem _ q)) with e | e
      · have := a1 k q; omega
      · exact e
    · rcases List.mem_cons.mp ((h k).mpr (List.mem_cons_of_mem _ q)) with e | e
      · have := b1 k q; omega
      · exact e
theorem nodup_le_sub : ∀ {xs ys : List Int}, xs.Nodup → (∀ k ∈ xs, k ∈ ys) → xs.length ≤ ys.length
  | [], _, _, _ => Nat.zero_le _
  | x :: xs, ys, nd, h => by
    obtain ⟨n1, n2⟩ := List.nodup_cons.mp nd
    have hx := h x List.mem_cons_self
    have := nodup_le_sub (ys := ys.erase x) n2 fun k hk => (List.mem_erase_of_ne (fun e => n1 (by rw [← e]; exact hk))).mpr (h k (List.mem_cons_of_mem _ hk))
    rw [List.length_erase_of_mem hx] at this
    have := List.length_pos_of_mem hx
    rw [List.length_cons]
    omega
def rSortSet (K : PySem.W.Frag) (x : V) (H : Hp) (Q : VK) : Prop := ∃ (l : Addr) (ns : List Int), x = .ref l ∧ SqL K H l (ns.map V.int) ∧ ((sset ns).length < 64 ∧ ns.length ≤ 4000) ∧ ∀ p, H p = none → Q (.ref p) (upd H p (.lst ((sset ns).map V.int)))
theorem pe_sortSetG {X : Cx} {a : Expr} {ta : TE} {p p2 q pos : Pos} (hc : X.calm = true) (hg : Gl X "sorted") (hm : X.mg "sorted" = none) (hg2 : Gl X "set") (hm2 : X.mg "set" = none) (ha : PE X a ta)
    (na : starEach [a] X.env = (false, eval a X.env) :: starEach [] X.env := by rfl) : PE X (.Call (.Name "sorted" p) [.Call (.Name "set" p2) [a] [] q] [] pos) (tUn (rSortSet X.K) ta) := by
  constructor
  intro pins s σ H Q I h
  refine Call_ (ld_blt I hg hm boot_sorted ?_)
  apply callWith_builtin1 (args_cons _ rfl) rfl rfl
  refine Call_ (ld_blt I hg2 hm2 boot_set ?_)
  apply callWith_type1 (args_cons (thn (ha.run pins s σ H _ I h) _) na) na rfl
  rintro v s1 ⟨x, H1, I1, r1, l, ns, rfl, hq, ⟨hl, hl5⟩, q1⟩
  apply args_nil
  cases r1
  obtain ⟨its, r, pl, hz⟩ := I1.list hq
  refine call_set_lst ns (I1.ok.hd hc) pl.isList (by simpa using ints_are r) (by unfold scanBound; omega) ?_
  intro h' tk c hS hcn hk
  apply args_nil
  have I2 : Inv X pins σ H1 { s1 with heap := h', toks := tk } := I1.kept fun b o e => hk b o e
  generalize hs2 : ({ s1 with heap := h', toks := tk } : Shared) = s2 at I2
  have hS : SetR X.w s2.heap s1.heap.objs.size (fun j => decide (j ∈ ns)) c := by rw [← hs2]; exact hS
  have hc64 : c < 64 := by
    obtain ⟨o, es, ep, t, _, _, _, _, nd, hm, _, _, hn, _⟩ := hS
    have h1 : (es.toList.map keyOf).length ≤ (sset ns).length := nodup_le_sub nd fun k hk => mem_sset.mpr (of_decide_eq_true ((hm k).mpr hk))
    rw [List.length_map, Array.length_toList, hn] at h1
    omega
  refine sorted_set hS (I2.ok.hd hc) hc64 fun s' p out c ms k g o hp hg hi hs hm hl2 => ?_
  have e0 : ms = sset ns := asc_uniq hs (sset_lt ns) fun j => by
    rw [hm j, mem_sset, decide_eq_true_eq]
  subst e0
  have hlen : ((sset ns).map V.int).length ≤ sizeLine := by rw [List.length_map, hl2, sizeLine_eq]; omega
  have hn : H1 p = none := I2.hok.fresh hp
  have J : L2.Inv X pins σ (upd H1 p (.lst ((sset ns).map V.int))) { s2 with heap := s'.heap, gens := s'.gens, drawn := s'.drawn, toks := s'.toks } :=
    I2.call (ch := []) (Un.laid k hp hn) (I2.hok.laid k hp ⟨hlen, out.toList, c, vals_of_ints hi, hg⟩) (by rw [g]; exact I2.bare) (fun _ z => nomatch z)
  have e : s' = { s2 with heap := s'.heap, gens := s'.gens, drawn := s'.drawn, toks := s'.toks } := by
    cases s'
    cases s2
    cases o
    rfl
  rw [e]
  exact ⟨.ref p, _, J, rfl, q1 p hn⟩
def gSortSet : D → Option R
  | .lst ds => (intsD ds).bind fun ns => if (sset ns).length < 64 ∧ ns.length ≤ 4000 then some (.own (.lst ((sset ns).map D.int))) else none
  | _ => none
theorem s_sortSet {K : PySem.W.Frag} : UnSound K gSortSet (rSortSet K) := by
  intro G H x v z Q hG t e q
  unfold gSortSet at e
  split at e
  · obtain ⟨ns, en, e⟩ := Option.bind_eq_some_iff.mp e
    split at e
    · rename_i hl
      cases e
      cases t with
      | lst a r =>
        rw [intsD_eq en] at r
        have ev := r.ints_inv
        subst ev
        exact ⟨_, ns, rfl, a.sql, hl, fun p hp => q p _ hp (.lst (Reps.ints _))⟩
    · cases e
  · cases e
theorem de_sortSet {X : Cx} {W : WX} {a : Expr} {ta : TE} {f : Env → O R} {p p2 q pos : Pos} (hc : X.calm = true) (hg : Gl X "sorted") (hm : X.mg "sorted" = none) (hg2 : Gl X "set") (hm2 : X.mg "set" = none) (ha : DE X W a ta f)
    (na : starEach [a] X.env = (false, eval a X.env) :: starEach [] X.env := by rfl) : DE X W (.Call (.Name "sorted" p) [.Call (.Name "set" p2) [a] [] q] [] pos) (tUn (rSortSet X.K) ta) (dUn gSortSet f) :=
  ⟨pe_sortSetG hc hg hm hg2 hm2 ha.1 na, one s_sortSet ha.2⟩
end DN
namespace DN
open PySem PySem.Spec PyProof.Rows L2
def zipLn2 (es : List D) (ρ : Env) : List D → O (List R)
  | [.lst gs] => .ok ρ (zipItems es gs)
  | _ => .un
def zipLn1 (fs : Env → O (List R)) (ρ : Env) : Option D → O (List R)
  | some (.lst es) => (fs ρ).bind fun ρ rs => (escs ρ rs).bind fun ρ ds => zipLn2 es ρ ds
  | _ => .un
def dZipLn (j : Nat) (fs : Env → O (List R)) : Env → O (List R) := fun ρ => zipLn1 fs ρ (lnD ρ j)
end DN
set_option maxHeartbeats 2000000
namespace DN
open PySem PySem.Spec PyProof.Rows L2
open Evl (Ex)
structure FldOk (K : PySem.W.Frag) (cs : List Str) (f : Str) : Prop where
  c : ∀ C ∈ cs, Cls K (He.ga K C)
  n : ∀ C ∈ cs, NoAttr K (He.ga K C) f
theorem FldOk.nil {K : PySem.W.Frag} {f : Str} : FldOk K [] f := ⟨fun _ h => (nomatch h), fun _ h => (nomatch h)⟩
theorem FldOk.cons {K : PySem.W.Frag} {C : Str} {cs : List Str} {f : Str} (a : Cls K (He.ga K C)) (b : NoAttr K (He.ga K C) f) (h : FldOk K cs f) : FldOk K (C :: cs) f :=
  ⟨fun D hD => (List.mem_cons.mp hD).elim (fun e => e ▸ a) (h.c D), fun D hD => (List.mem_cons.mp hD).elim (fun e => e ▸ b) (h.n D)⟩
def fldD (f : Str) : List (Str × D) → Option D
  | [] => none
  | (g, d) :: r => if f = g then some d else fldD f r
def gFld (cs : List Str) (f : Str) : D → Option R
  | .ins C fs => if C ∈ cs then (fldD f fs).map .fz else none
  | _ => none
theorem RepF.get {K : PySem.W.Frag} {H : Hp} {f : Str} {d : D} : ∀ {fs : List (Str × D)} {ws : List (Str × V)}, RepF K H fs ws → fldD f fs = some d → ∃ v, ws.lookup f = some v ∧ Rep K H d v
  | _, _, .nil, e => by cases e
  | (g, d0) :: r, (_, w) :: ws, .cons a t, e => by
    unfold fldD at e
    by_cases h : f = g
    · rw [if_pos h] at e
      cases e
      subst h
      exact ⟨_, by simp [List.lookup], a⟩
    · rw [if_neg h] at e
      obtain ⟨v, h1, h2⟩ := RepF.get t e
      refine ⟨v, ?_, h2⟩
      rw [List.lookup_cons, beq_eq_false_iff_ne.mpr h]
      exact h1
theorem RepF.none {K : PySem.W.Frag} {H : Hp} {f : Str} : ∀ {fs : List (Str × D)} {ws : List (Str × V)}, RepF K H fs ws → fldD f fs = Option.none → ws.lookup f = Option.none
  | _, _, .nil, e => rfl
  | (g, d0) :: r, (_, w) :: ws, .cons a t, e => by
    unfold fldD at e
    by_cases h : f = g
    · rw [if_pos h] at e; cases e
    · rw [if_neg h] at e
      rw [List.lookup_cons, beq_eq_false_iff_ne.mpr h]
      exact RepF.none t e
theorem RepF.length {K : PySem.W.Frag} {H : Hp} : ∀ {fs : List (Str × D)} {ws : List (Str × V)}, RepF K H fs ws → ws.length = fs.length
  | _, _, .nil => rfl
  | _, _, .cons _ t => congrArg (· + 1) (RepF.length t)
def putFD (f : Str) (d : D) : List (Str × D) → List (Str × D)
  | [] => [(f, d)]
  | (g, e) :: r => if f = g then (g, d) :: r else (g, e) :: putFD f d r
theorem RepF.put {K : PySem.W.Frag} {H : Hp} {f : Str} {d : D} {v : V} (rd : Rep K H d v) : ∀ {fs : List (Str × D)} {ws : List (Str × V)}, RepF K H fs ws → RepF K H (putFD f d fs) (putF f v ws)
  | _, _, .nil => .cons rd .nil
  | (g, d0) :: r, (_, w) :: ws, .cons a t => by
    unfold putFD putF
    by_cases h : f = g
    · subst h
      simp only [if_true, beq_self_eq_true]
      exact .cons rd t
    · have h' : ¬ g = f := fun e => h e.symm
      simp only [if_neg h, if_neg h', beq_eq_false_iff_ne.mpr h, beq_eq_false_iff_ne.mpr h', Bool.false_eq_true, if_false]
      exact .cons a (RepF.put rd t)
section
variable {K : PySem.W.Frag} {X : Cx} {Wx : WX} {e : Expr} {g : Env → O R} {pos p : Pos} {ta tv : TE} {f x : Str} {cs : List Str}
def putAt (cs : List Str) (f : Str) (d : D) : Option D → Option D
  | some (.ins C fs) => if C ∈ cs then (if fs.length < 1000 then some (.ins C (putFD f d fs)) else none) else none
  | _ => none
def finFld (ρ : Env) (j : Nat) : Option D → O Unit
  | some x => .ok (ρ.set j (.own x)) ()
  | none => .un
/-- slot j is an instance of its own: its field takes what is at hand -/
def storeF (j : Nat) (cs : List Str) (f : Str) : Env → R → O Unit := fun ρ r => (esc ρ r).bind fun ρ d => finFld ρ j (putAt cs f d (ownAt ρ j))
inductive Tg where
  | nm (i : Nat) | fld (j : Nat) (cs : List Str) (f : Str) | ix (j i : Nat)
/-- an item by the number that a slot holds -/
def ixAt (d : D) : Option D → Option D → Option D
  | some x, some (.int n) => gPut x (.int n) d
  | _, _ => none
def Tg.put : Tg → Env → D → Option Env
  | .nm i, ρ, d => some (ρ.set i (.fz d))
  | .fld j cs f, ρ, d => (putAt cs f d (ownAt ρ j)).map fun x => ρ.set j (.own x)
  | .ix j i, ρ, d => (ixAt d (ownAt ρ j) (lnD ρ i)).map fun x => ρ.set j (.own x)
def putTs : List Tg → List D → Env → Option Env
  | [], [], ρ => some ρ
  | t :: ts, d :: ds, ρ => (t.put ρ d).bind (putTs ts ds)
  | _, _, _ => none
def finTs (ts : List Tg) (ds : List D) (ρ : Env) : O Unit := match putTs ts ds ρ with
  | some ρ' => .ok ρ' ()
  | none => .un
def escTs (ts : List Tg) (ρ : Env) (rs : List R) : O Unit := if rs.length = ts.length then (match escRs ρ rs with
    | some (ρ', ds) => finTs ts ds ρ'
    | none => .un) else .un
def storeT (ts : List Tg) : Env → R → O Unit := fun ρ r => match partsR ρ r with
  | some rs => escTs ts ρ rs
  | none => .un
end
end DN
set_option maxHeartbeats 2000000
namespace DN
open PySem PySem.Spec PyProof.Rows L2
open Evl (Ex)
section
variable {K : PySem.W.Frag} {L : Lent} {G B H : Hp} {σ : L2.St} {ρ : Env} {rs : List R} {vs : List V} {d : D} {l : Addr} {o : HO}
/-- the new instance, where its __init__ returned -/
def mkFin (ms : List Md) (ρ : Env) (rs : List R) : FO → O R
  | .ok (d :: outs) (.fz .non) => .ok (putIO (unIO ρ (ioSl ms rs)) ms rs outs) (.own d)
  | .er (_ :: outs) e => .er (putIO (unIO ρ (ioSl ms rs)) ms rs outs) e
  | _ => .un
def mkRun (C : Str) (ms : List Md) (m : List D → FO) (ρ : Env) (rs : List R) : Option (List D) → O R
  | some ds => mkFin ms ρ rs (m (.ins C [] :: ds))
  | none => .un
def makeM (C : Str) (ms : List Md) (m : List D → FO) (ρ : Env) (rs : List R) : O R := match passA ρ ms rs with
  | some (ρ1, rs1) => if ioOk ms rs1 = true then mkRun C ms m ρ1 rs1 (passB ρ1 ms rs1) else .un
  | none => .un
end
section
variable {X : Cx} {Wx : WX} {k j : Nat} {f C : Addr} {fd : FuncData} {ps : List Str} {sp : Sp} {E : L2.St → XK} {x m : Str} {p pos apos : Pos} {e o : Expr} {es : List Expr} {t : TA} {ta : TE} {ds : List Value} {dv : List V}
def dMake (C : Str) (ms : List Md) (m : List D → FO) (fs : Env → O (List R)) : Env → O R := fun ρ => (fs ρ).bind fun ρ rs => makeM C ms m ρ rs
def altD : List (Str × (List D → FO)) → Str → Option (List D → FO)
  | [], _ => none
  | p :: r, C => if p.1 = C then some p.2 else altD r C
def runMe (ms : List Md) (fs : Env → O (List R)) (ρ : Env) (r : R) : Option (List D → FO) → O R
  | some d => (fs ρ).bind fun ρ rs => callM ms d ρ (r :: rs)
  | none => .un
def isMe (m : Str) (ms : List Md) (tb : List (Str × (List D → FO))) (fs : Env → O (List R)) (ρ : Env) (r : R) : Option D → O R
  | some (.ins C fl) => if fldD m fl = none then runMe ms fs ρ r (altD tb C) else .un
  | _ => .un
def dMeth (m : Str) (ms : List Md) (tb : List (Str × (List D → FO))) (fo : Env → O R) (fs : Env → O (List R)) : Env → O R := fun ρ => (dN fo ρ).bind fun ρ r => isMe m ms tb fs ρ r (useR ρ r)
end
end DN
set_option maxHeartbeats 2000000
namespace DN
open PySem PySem.Spec PyProof.Rows L2
open Evl (Ex)
section
variable {K : PySem.W.Frag} {X : Cx} {Wx : WX} {e : Expr} {es : List Expr} {f fk fd : Env → O R} {fs : Env → O (List R)} {pos p : Pos} {ta tk td : TE} {tr : TA}
def itemsR : D → Option (List R)
  | .lst ds => some (ds.map .fz)
  | .tup ds => some (ds.map .fz)
  | _ => none
def finStar (ρ : Env) (fs : Env → O (List R)) : Option (List R) → O (List R)
  | some is => (fs ρ).bind fun ρ rs => .ok ρ (is ++ rs)
  | none => .un
def dStar (f : Env → O R) (fs : Env → O (List R)) : Env → O (List R) := fun ρ => (dN f ρ).bind fun ρ r => finStar ρ fs ((useR ρ r).bind itemsR)
theorem da_star (ha : DE X Wx e ta f) (hr : DA X Wx es tr fs) (hs : starEach (.Starred e p :: es) X.env = (true, eval e X.env) :: starEach es X.env := by rfl) : DA X Wx (.Starred e p :: es) (StX.tStar X.K ta tr) (dStar f fs) := by
  obtain ⟨pt, ha⟩ := ha
  obtain ⟨pu, hr⟩ := hr
  refine ⟨StX.pa_star pt pu hs, fun L G B H σ ρ Q s q => ha.n L G B H σ ρ _ s ((Post.bind q).imp fun ρ1 r1 G1 B1 H1 _ q v k => ?_)⟩
  have s1 := k.state
  have go : ∀ {ds : List D} {xs : List V}, Reps X.K G1 ds xs → Post X.K Wx L G1 B1 σ (finStar ρ1 fs (some (ds.map .fz))) (fun ρ' rs G' B' H' => ∀ vs, OkVs X.K L G' H' σ ρ' B' rs vs → Q vs H') → tr σ H1 fun ys H2 => Q (xs ++ ys) H2 := fun {ds xs} rr q => by
    have kk : OkVs X.K L G1 H1 σ ρ1 B1 (ds.map .fz) xs := by
      have := OkVs.ofReps rr (OkVs.nil s1)
      rw [List.append_nil, List.append_nil] at this
      exact this
    exact kk.thenA hr ((Post.bind q).imp fun ρ2 r2 G2 B2 H2 _ q2 w k2 => Post.okD q2 H2 _ k2)
  cases hu : useR ρ1 r1 with
  | none => rw [hu] at q; exact q.elim
  | some d =>
    rw [hu] at q
    cases d <;> try exact q.elim
    · have t := k.use hu
      cases t with
      | @lst a ds ws ha rp => exact ⟨a, ws, rfl, .inr ha.sql, go rp q⟩
    · have t := k.use hu
      cases t with
      | @tup a ds ws ha rp => exact ⟨a, ws, rfl, .inl ha, go rp q⟩
def getOr (x y d : D) : Option R := match x with
  | .dct kvs => (keyD y).map fun k => .fz ((valD kvs k).getD d)
  | _ => none
def isDct : Option D → Bool
  | some (.dct _) => true
  | _ => false
def finGet (ρ : Env) : R → Option D → Option D → O R
  | .fz d, some y, some x => ret ρ (getOr x y d)
  | _, _, _ => .un
def dGet (fo fk fd : Env → O R) : Env → O R := fun ρ => (dN fo ρ).bind fun ρ r1 => if isDct (useR ρ r1) = true then (dN fk ρ).bind fun ρ r2 => (dE fd ρ).bind fun ρ r3 => finGet ρ r3 (useR ρ r2) (useR ρ r1) else .un
end
end DN
namespace DN
open PySem
end DN
set_option maxHeartbeats 2000000
namespace DN
open PySem PySem.Spec PyProof.Rows L2
open Evl (Ex)
def lstR : R → Option (List D)
  | .fz (.lst ds) => some ds
  | _ => none
def flatR : List R → Option (List D)
  | [] => some []
  | r :: rs => (lstR r).bind fun ds => (flatR rs).map (ds ++ ·)
def finFlat (ρ : Env) : Option (List D) → O R
  | some ds => if ds.length < 100000 then .ok ρ (.own (.lst ds)) else .un
  | none => .un
def dFlat (fi : Env → O (List R)) (i j : Nat) : Env → O R := fun ρ => (fi ρ).bind fun ρ items => if (noOwnAt ρ [i, j] && (decide (i < ρ.length) && decide (j < ρ.length))) = true then finFlat ρ (flatR items) else .un
end DN
namespace L2
open PySem PySem.W PySem.Spec PyProof.Rows
theorem DpAll.len {K : PySem.W.Frag} {H : Hp} : ∀ {vs : List V} {ps : List PyData}, DpAll K H vs ps → vs.length = ps.length
  | _, _, .nil => rfl
  | _, _, .cons _ h => by rw [List.length_cons, List.length_cons, h.len]
end L2
namespace DN
open PySem PySem.W PySem.Spec PyProof.Rows L2
end DN
namespace DN
open PySem PySem.Spec PyProof.Rows L2
/-- an exception class of the program without an __init__ of its own -/
structure ExF (K : PySem.W.Frag) (mg : Str → Option Value) (x : Str) : Prop where
  gl : mg x = some (.ref (He.ga K x))
  ex : PySem.W.excIn K (He.ga K x) He.veBase "ValueError.__new__" = true
  kp : PySem.W.keepIn K (.ref (He.ga K x)) = true
  sb : PySem.W.subIn K (.ref (He.ga K x)) (.type "BaseException") = some true
  ty : PySem.W.typeIn K (.ref (He.ga K x)) = some (.type "type")
theorem ExF.mk2 {K : PySem.W.Frag} {mg : Str → Option Value} {x : Str} (a : mg x = some (.ref (He.ga K x))) (h : PySem.W.excIn K (He.ga K x) He.veBase "ValueError.__new__" = true ∧ PySem.W.keepIn K (.ref (He.ga K x)) = true ∧ PySem.W.subIn K (.ref (He.ga K x)) (.type "BaseException") = some true ∧
    PySem.W.typeIn K (.ref (He.ga K x)) = some (.type "type")) : ExF K mg x := ⟨a, h.1, h.2.1, h.2.2.1, h.2.2.2⟩
theorem exm_nil {K : PySem.W.Frag} {x : Str} : ∀ p ∈ ([] : List (Str × Bool)), PySem.W.exmOne K (.ref (He.ga K p.1)) (.ref (He.ga K x)) = some p.2 := fun p hp => nomatch hp
theorem exm_cons {K : PySem.W.Frag} {x y : Str} {b : Bool} {r : List (Str × Bool)} (a : PySem.W.exmOne K (.ref (He.ga K y)) (.ref (He.ga K x)) = some b) (h : ∀ p ∈ r, PySem.W.exmOne K (.ref (He.ga K p.1)) (.ref (He.ga K x)) = some p.2) :
    ∀ p ∈ (y, b) :: r, PySem.W.exmOne K (.ref (He.ga K p.1)) (.ref (He.ga K x)) = some p.2 := fun p hp => by
  rcases List.mem_cons.mp hp with rfl | hp
  · exact a
  · exact h p hp
def dRaise (x : Str) : Env → O Fl := fun ρ => .er ρ ⟨x, []⟩
section
variable {X : Cx} {Wx : WX} {x m : Str} {j : Nat} {p p2 p3 p4 : Pos}
theorem ds_raise (e : ExF X.K X.mg x) (hc : X.calm = true) (tk : Takes X Wx) (hg : Gl X x) (hdb : (x == ("__debug__" : Str)) = false := by decide) :
    DS X Wx [] (.Raise (some (.Call (.Name x p) [.Constant (.str m) j p2] [] p3)) none p4) (fun _ σ H => Wx (.ref (He.ga X.K x)) none σ H) (dRaise x) :=
  ⟨ps_raise hc tk (pmk_own PySem.F.excBase_ValueError e.ex e.gl e.kp (raises_own e.sb e.ty) hg hdb),
    fun L G B H σ ρ D s p => p G B H σ _ _ .refl .refl s ⟨rfl, .inl ⟨rfl, rfl⟩⟩⟩
/-- the reading that a den gives -/
def canS (K : PySem.W.Frag) (W : WX) (S : List Nat) (f : Env → O Fl) : TS := fun D σ H => ∃ L G B ρ, OkS K L G B H σ ρ ∧ PostS K W L G B σ S (f ρ) D
theorem DSs.can {X : Cx} {W : WX} {S : List Nat} {b : List Stmt} {f : Env → O Fl} (h : ∃ t, DSs X W S b t f) : PSs X b (canS X.K W S f) := by
  obtain ⟨t, pt, sem⟩ := h
  refine ⟨fun pins s σ H D I q => pt.run pins s σ H D I ?_⟩
  obtain ⟨L, G, B, ρ, ok, po⟩ := q
  exact sem L G B H σ ρ D ok po
theorem DS.can {X : Cx} {W : WX} {S : List Nat} {b : Stmt} {f : Env → O Fl} (h : ∃ t, DS X W S b t f) : DS X W S b (canS X.K W S f) f := by
  obtain ⟨t, pt, sem⟩ := h
  refine ⟨⟨fun pins s σ H D I q => pt.run pins s σ H D I ?_⟩, fun L G B H σ ρ D ok po => ⟨L, G, B, ρ, ok, po⟩⟩
  obtain ⟨L, G, B, ρ, ok, po⟩ := q
  exact sem L G B H σ ρ D ok po
def noEr (o : O Fl) : O Fl := match o with
  | .er _ _ => .un
  | o => o
def dTry (tb : List (Str × Bool)) (fb fs : Env → O Fl) : Env → O Fl := fun ρ => match fb ρ with
  | .er ρ' e => (match tb.lookup e.cls with
    | some true => noEr (fs ρ')
    | some false => .er ρ' e
    | none => .un)
  | o => o
theorem lookup_memS {α : Type} {x : Str} {a : α} : ∀ {tb : List (Str × α)}, tb.lookup x = some a → (x, a) ∈ tb
  | [], h => nomatch h
  | (y, b) :: tb, h => by
    rw [List.lookup_cons] at h
    cases e : x == y with
    | true =>
      rw [e] at h
      simp only [Option.some.injEq] at h
      have := eq_of_beq e
      subst this; subst h
      exact List.mem_cons_self
    | false =>
      rw [e] at h
      exact List.mem_cons_of_mem _ (lookup_memS h)
theorem ds_try {x0 : Str} {np pos pos' : Pos} {body suite : List Stmt} {b₀ : Stmt} {S T : List Nat} {fb fs : Env → O Fl} (tb : List (Str × Bool)) (hs : X.stack = X.env :: X.outer) (hf : X.env.frame = some X.env.locals)
    (hg : Gl X x0) (gl : X.mg x0 = some (.ref (He.ga X.K x0))) (ht : ∀ p ∈ tb, PySem.W.exmOne X.K (.ref (He.ga X.K p.1)) (.ref (He.ga X.K x0)) = some p.2) (tk : Takes X Wx)
    (hb : ∀ (W : WX) (pn : List (Addr × Obj)) (xe : Value → Shared → Prop), Takes (X.tr pn xe) W → PassesOwn (model X.prog X.w) X.A X.env xe → ∃ t, DSs (X.tr pn xe) W S body t fb)
    (hsu : ∀ (a : Addr) (pn : List (Addr × Obj)), ∃ t, DSs (X.suite a pn) (fun _ _ _ _ => False) T (b₀ :: suite) t fs) (hdb : (x0 == ("__debug__" : Str)) = false := by decide) :
    DS X Wx (S ++ T) (.Try body [.ExceptHandler (some (.Name x0 np)) none (b₀ :: suite) pos'] [] [] pos) (canS X.K Wx (S ++ T) (dTry tb fb fs)) (dTry tb fb fs) := by
  refine DS.can ⟨_, ps_try_only (tb := fun W => canS X.K W S fb) (ts := fun _ _ _ => canS X.K (fun _ _ _ _ => False) T fs) hs hf ⟨hg, hdb, .inl gl⟩ tk (fun W pn xe tk' po => DSs.can (X := X.tr pn xe) (hb W pn xe tk' po)) (fun a oe cls d pn _ _ => DSs.can (X := X.suite a ((a, oe) :: pn)) (hsu a ((a, oe) :: pn))), ?_⟩
  intro L G B H σ ρ D s p
  refine ⟨L, G, B, ρ, s, ?_⟩
  unfold dTry at p
  cases e : fb ρ with
  | un => rw [e] at p; exact p
  | ok ρ1 fl => rw [e] at p; cases fl <;> exact PostS.sub (T := S ++ T) p fun i hi => List.mem_append_left _ hi
  | er ρ1 er1 =>
    rw [e] at p
    simp only at p
    intro G' B' H' σ' c d g st ok oe
    have hc : c = .ref (He.ga X.K er1.cls) := oe.1
    cases el : tb.lookup er1.cls with
    | none => rw [el] at p; exact p.elim
    | some b =>
      have hm := ht _ (lookup_memS el)
      rw [el] at p
      refine ⟨b, by rw [hc]; exact hm, fun hb => ?_, fun hb => ?_⟩
      · subst hb
        exact fun a ha => ⟨L, G', B', ρ1, ok, by
          have q : PostS X.K Wx L G' B' σ' T (noEr (fs ρ1)) D := PostS.step (S := S) (T := T) p g st
          unfold noEr at q
          cases e2 : fs ρ1 with
          | un => rw [e2] at q; exact q
          | er ρ2 e3 => rw [e2] at q; exact q.elim
          | ok ρ2 fl => rw [e2] at q; cases fl <;> exact q⟩
      · subst hb
        exact p G' B' H' σ' c d g (st.mono fun i hi => List.mem_append_left _ hi) ok oe
end
end DN
namespace DN
@[simp] def zs_env0_1 := fun x0 x1 x2 => nr (@DN.env0.eq_1 x0 x1 x2)
@[simp] def zs_slotM_1 := fun x0 => nr (@DN.slotM.eq_1 x0)
@[simp] def zs_slotM_2 := fun x0 => nr (@DN.slotM.eq_2 x0)
@[simp] def zs_slotM_3 := fun x0 => nr (@DN.slotM.eq_3 x0)
@[simp] def zs_dSeq_1 := fun x0 x1 (s2 : Sl) (t2 : List Sl) => nr (@DN.dSeq.eq_1 x0 x1 (s2 :: t2))
@[simp] def zs_dIfS_1 := fun x0 x1 x2 (s3 : Sl) (t3 : List Sl) => nr (@DN.dIfS.eq_1 x0 x1 x2 (s3 :: t3))
@[simp] def zs_dOr_1 := fun x0 x1 (s2 : Sl) (t2 : List Sl) => nr (@DN.dOr.eq_1 x0 x1 (s2 :: t2))
@[simp] def zs_dAnd_1 := fun x0 x1 (s2 : Sl) (t2 : List Sl) => nr (@DN.dAnd.eq_1 x0 x1 (s2 :: t2))
@[simp] def zs_dNot_1 := fun x0 (s1 : Sl) (t1 : List Sl) => nr (@DN.dNot.eq_1 x0 (s1 :: t1))
@[simp] def zs_dConsN_1 := fun x0 x1 => nr (@DN.dConsN.eq_1 x0 x1)
@[simp] def zs_dCons_1 := fun x0 x1 (s2 : Sl) (t2 : List Sl) => nr (@DN.dCons.eq_1 x0 x1 (s2 :: t2))
@[simp] def zs_dN_1 := fun x0 (s1 : Sl) (t1 : List Sl) => nr (@DN.dN.eq_1 x0 (s1 :: t1))
@[simp] def zs_dVar_1 := fun x0 (s1 : Sl) (t1 : List Sl) => nr (@DN.dVar.eq_1 x0 (s1 :: t1))
@[simp] def zs_getD_1 := fun (s0 : Sl) (t0 : List Sl) x1 => nr (@DN.getD.eq_1 (s0 :: t0) x1)
@[simp] def zs_slD_1 := nr (@DN.slD.eq_1)
@[simp] def zs_slD_2 := fun x0 => nr (@DN.slD.eq_2 x0)
@[simp] def zs_slD_3 := fun x0 => nr (@DN.slD.eq_3 x0)
@[simp] def zs_slD_4 := fun x0 => nr (@DN.slD.eq_4 x0)
@[simp] def zs_untp_1 := fun (s0 : Sl) (t0 : List Sl) x1 => nr (@DN.untp.eq_1 (s0 :: t0) x1)
@[simp] def zs_untp_2 := fun (s0 : Sl) (t0 : List Sl) x1 x2 => nr (@DN.untp.eq_2 (s0 :: t0) x1 x2)
@[simp] def zs_usesR_1 := fun (s0 : Sl) (t0 : List Sl) => nr (@DN.usesR.eq_1 (s0 :: t0))
@[simp] def zs_usesR_2 := fun (s0 : Sl) (t0 : List Sl) x1 x2 => nr (@DN.usesR.eq_2 (s0 :: t0) x1 x2)
@[simp] def zs_useR_1 := fun (s0 : Sl) (t0 : List Sl) x1 => nr (@DN.useR.eq_1 (s0 :: t0) x1)
@[simp] def zs_useR_2 := fun (s0 : Sl) (t0 : List Sl) x1 => nr (@DN.useR.eq_2 (s0 :: t0) x1)
@[simp] def zs_useR_3 := fun (s0 : Sl) (t0 : List Sl) x1 => nr (@DN.useR.eq_3 (s0 :: t0) x1)
@[simp] def zs_useR_4 := fun (s0 : Sl) (t0 : List Sl) x1 => nr (@DN.useR.eq_4 (s0 :: t0) x1)
@[simp] def zs_dC_1 := fun x0 (s1 : Sl) (t1 : List Sl) => nr (@DN.dC.eq_1 x0 (s1 :: t1))
@[simp] def zs_dNil_1 := fun (s0 : Sl) (t0 : List Sl) => nr (@DN.dNil.eq_1 (s0 :: t0))
@[simp] def zs_gIsi_1 := fun x0 x1 => nr (@DN.gIsi.eq_1 x0 x1)
@[simp] def zs_gIsi_2 := fun x0 x1 => nr (@DN.gIsi.eq_2 x0 x1)
@[simp] def zs_tyN_1 := nr (@DN.tyN.eq_1)
@[simp] def zs_tyN_2 := fun x0 => nr (@DN.tyN.eq_2 x0)
@[simp] def zs_tyN_3 := fun x0 => nr (@DN.tyN.eq_3 x0)
@[simp] def zs_tyN_4 := fun x0 => nr (@DN.tyN.eq_4 x0)
@[simp] def zs_tyN_5 := fun x0 => nr (@DN.tyN.eq_5 x0)
@[simp] def zs_tyN_6 := fun x0 => nr (@DN.tyN.eq_6 x0)
@[simp] def zs_tyN_7 := fun x0 => nr (@DN.tyN.eq_7 x0)
@[simp] def zs_tyN_8 := fun x0 x1 x2 x3 x4 x5 x6 x7 => nr (@DN.tyN.eq_8 x0 x1 x2 x3 x4 x5 x6 x7)
@[simp] def zs_ret_1 := fun (s0 : Sl) (t0 : List Sl) x1 => nr (@DN.ret.eq_1 (s0 :: t0) x1)
@[simp] def zs_ret_2 := fun (s0 : Sl) (t0 : List Sl) x1 => nr (@DN.ret.eq_2 (s0 :: t0) x1)
@[simp] def zs_ret_3 := fun (s0 : Sl) (t0 : List Sl) x1 x2 x3 => nr (@DN.ret.eq_3 (s0 :: t0) x1 x2 x3)
@[simp] def zs_truD_1 := nr (@DN.truD.eq_1)
@[simp] def zs_truD_2 := fun x0 => nr (@DN.truD.eq_2 x0)
@[simp] def zs_truD_3 := fun x0 => nr (@DN.truD.eq_3 x0)
@[simp] def zs_truD_4 := fun x0 => nr (@DN.truD.eq_4 x0)
@[simp] def zs_truD_5 := fun x0 => nr (@DN.truD.eq_5 x0)
@[simp] def zs_truD_6 := fun x0 => nr (@DN.truD.eq_6 x0)
@[simp] def zs_truD_7 := fun x0 x1 x2 x3 x4 x5 x6 => nr (@DN.truD.eq_7 x0 x1 x2 x3 x4 x5 x6)
@[simp] def zs_dRet_1 := fun x0 (s1 : Sl) (t1 : List Sl) => nr (@DN.dRet.eq_1 x0 (s1 :: t1))
@[simp] def zs_dNext_1 := fun (s0 : Sl) (t0 : List Sl) => nr (@DN.dNext.eq_1 (s0 :: t0))
@[simp] def zs_dAndV_1 := fun x0 x1 (s2 : Sl) (t2 : List Sl) => nr (@DN.dAndV.eq_1 x0 x1 (s2 :: t2))
@[simp] def zs_dOrV_1 := fun x0 x1 (s2 : Sl) (t2 : List Sl) => nr (@DN.dOrV.eq_1 x0 x1 (s2 :: t2))
@[simp] def zs_dNotV_1 := fun x0 (s1 : Sl) (t1 : List Sl) => nr (@DN.dNotV.eq_1 x0 (s1 :: t1))
@[simp] def zs_dOp_1 := fun x0 x1 x2 (s3 : Sl) (t3 : List Sl) => nr (@DN.dOp.eq_1 x0 x1 x2 (s3 :: t3))
@[simp] def zs_dUn_1 := fun x0 x1 (s2 : Sl) (t2 : List Sl) => nr (@DN.dUn.eq_1 x0 x1 (s2 :: t2))
@[simp] def zs_dIf_1 := fun x0 x1 x2 (s3 : Sl) (t3 : List Sl) => nr (@DN.dIf.eq_1 x0 x1 x2 (s3 :: t3))
@[simp] def zs_use1_1 := fun (s0 : Sl) (t0 : List Sl) x1 => nr (@DN.use1.eq_1 (s0 :: t0) x1)
@[simp] def zs_isNon_1 := nr (@DN.isNon.eq_1)
@[simp] def zs_isNon_2 := fun x0 x1 => nr (@DN.isNon.eq_2 x0 x1)
@[simp] def zs_gIsN_1 := fun x0 x1 => nr (@DN.gIsN.eq_1 x0 x1)
@[simp] def zs_gNotN_1 := fun x0 x1 => nr (@DN.gNotN.eq_1 x0 x1)
@[simp] def zs_orE_1 := fun x0 x1 x2 x3 x4 => nr (@DN.orE.eq_1 x0 x1 x2 x3 x4)
@[simp] def zs_outsOf_1 := fun (s0 : Sl) (t0 : List Sl) x1 => nr (@DN.outsOf.eq_1 (s0 :: t0) x1)
@[simp] def zs_outsOf_2 := fun (s0 : Sl) (t0 : List Sl) x1 x2 => nr (@DN.outsOf.eq_2 (s0 :: t0) x1 x2)
@[simp] def zs_outsOf_3 := fun (s0 : Sl) (t0 : List Sl) x1 x2 x3 x4 => nr (@DN.outsOf.eq_3 (s0 :: t0) x1 x2 x3 x4)
@[simp] def zs_closeR_1 := fun (s0 : Sl) (t0 : List Sl) x1 => nr (@DN.closeR.eq_1 (s0 :: t0) x1)
@[simp] def zs_closeR_2 := fun (s0 : Sl) (t0 : List Sl) x1 x2 => nr (@DN.closeR.eq_2 (s0 :: t0) x1 x2)
@[simp] def zs_dAsg_1 := fun x0 x1 (s2 : Sl) (t2 : List Sl) => nr (@DN.dAsg.eq_1 x0 x1 (s2 :: t2))
@[simp] def zs_store_1 := fun x0 (s1 : Sl) (t1 : List Sl) x2 => nr (@DN.store.eq_1 x0 (s1 :: t1) x2)
@[simp] def zs_store_2 := fun x0 (s1 : Sl) (t1 : List Sl) x2 => nr (@DN.store.eq_2 x0 (s1 :: t1) x2)
@[simp] def zs_store_3 := fun x0 (s1 : Sl) (t1 : List Sl) x2 => nr (@DN.store.eq_3 x0 (s1 :: t1) x2)
@[simp] def zs_store_4 := fun x0 (s1 : Sl) (t1 : List Sl) x2 => nr (@DN.store.eq_4 x0 (s1 :: t1) x2)
@[simp] def zs_storeE_1 := fun x0 x1 x2 => nr (@DN.storeE.eq_1 x0 x1 x2)
@[simp] def zs_storeE_2 := fun x0 => nr (@DN.storeE.eq_2 x0)
@[simp] def zs_dDrop_1 := fun x0 (s1 : Sl) (t1 : List Sl) => nr (@DN.dDrop.eq_1 x0 (s1 :: t1))
@[simp] def zs_esc_1 := fun (s0 : Sl) (t0 : List Sl) x1 => nr (@DN.esc.eq_1 (s0 :: t0) x1)
@[simp] def zs_escs_1 := fun (s0 : Sl) (t0 : List Sl) x1 => nr (@DN.escs.eq_1 (s0 :: t0) x1)
@[simp] def zs_escR_1 := fun (s0 : Sl) (t0 : List Sl) x1 => nr (@DN.escR.eq_1 (s0 :: t0) x1)
@[simp] def zs_escR_2 := fun (s0 : Sl) (t0 : List Sl) x1 => nr (@DN.escR.eq_2 (s0 :: t0) x1)
@[simp] def zs_escR_3 := fun (s0 : Sl) (t0 : List Sl) x1 => nr (@DN.escR.eq_3 (s0 :: t0) x1)
@[simp] def zs_escR_4 := fun (s0 : Sl) (t0 : List Sl) x1 => nr (@DN.escR.eq_4 (s0 :: t0) x1)
@[simp] def zs_escRs_1 := fun (s0 : Sl) (t0 : List Sl) => nr (@DN.escRs.eq_1 (s0 :: t0))
@[simp] def zs_escRs_2 := fun (s0 : Sl) (t0 : List Sl) x1 x2 => nr (@DN.escRs.eq_2 (s0 :: t0) x1 x2)
@[simp] def zs_dLst_1 := fun x0 (s1 : Sl) (t1 : List Sl) => nr (@DN.dLst.eq_1 x0 (s1 :: t1))
@[simp] def zs_dTup_1 := fun x0 (s1 : Sl) (t1 : List Sl) => nr (@DN.dTup.eq_1 x0 (s1 :: t1))
@[simp] def zs_dE_1 := fun x0 (s1 : Sl) (t1 : List Sl) => nr (@DN.dE.eq_1 x0 (s1 :: t1))
@[simp] def zs_dCall_1 := fun x0 x1 x2 x3 (s4 : Sl) (t4 : List Sl) => nr (@DN.dCall.eq_1 x0 x1 x2 x3 (s4 :: t4))
@[simp] def zs_passA_1 := fun (s0 : Sl) (t0 : List Sl) => nr (@DN.passA.eq_1 (s0 :: t0))
@[simp] def zs_passA_2 := fun (s0 : Sl) (t0 : List Sl) x1 x2 x3 x4 => nr (@DN.passA.eq_2 (s0 :: t0) x1 x2 x3 x4)
@[simp] def zs_passA_3 := fun (s0 : Sl) (t0 : List Sl) x1 x2 x3 x4 => nr (@DN.passA.eq_3 (s0 :: t0) x1 x2 x3 x4)
@[simp] def zs_passB_1 := fun (s0 : Sl) (t0 : List Sl) => nr (@DN.passB.eq_1 (s0 :: t0))
@[simp] def zs_passB_2 := fun (s0 : Sl) (t0 : List Sl) x1 x2 x3 => nr (@DN.passB.eq_2 (s0 :: t0) x1 x2 x3)
@[simp] def zs_passB_3 := fun (s0 : Sl) (t0 : List Sl) x1 x2 x3 => nr (@DN.passB.eq_3 (s0 :: t0) x1 x2 x3)
@[simp] def zs_passB_4 := fun (s0 : Sl) (t0 : List Sl) x1 x2 x3 x4 x5 => nr (@DN.passB.eq_4 (s0 :: t0) x1 x2 x3 x4 x5)
@[simp] def zs_passB_5 := fun (s0 : Sl) (t0 : List Sl) x1 x2 x3 x4 x5 => nr (@DN.passB.eq_5 (s0 :: t0) x1 x2 x3 x4 x5)
@[simp] def zs_passB_6 := fun (s0 : Sl) (t0 : List Sl) x1 x2 x3 x4 x5 => nr (@DN.passB.eq_6 (s0 :: t0) x1 x2 x3 x4 x5)
@[simp] def zs_isTp_1 := fun x0 => nr (@DN.isTp.eq_1 x0)
@[simp] def zs_isTp_2 := fun x0 x1 => nr (@DN.isTp.eq_2 x0 x1)
@[simp] def zs_ioOk_1 := fun x0 x1 => nr (@DN.ioOk.eq_1 x0 x1)
@[simp] def zs_putIO_1 := fun (s0 : Sl) (t0 : List Sl) x1 x2 x3 x4 x5 => nr (@DN.putIO.eq_1 (s0 :: t0) x1 x2 x3 x4 x5)
@[simp] def zs_putIO_2 := fun (s0 : Sl) (t0 : List Sl) x1 x2 x3 x4 x5 x6 => nr (@DN.putIO.eq_2 (s0 :: t0) x1 x2 x3 x4 x5 x6)
@[simp] def zs_putIO_3 := fun (s0 : Sl) (t0 : List Sl) x1 x2 x3 x4 x5 x6 x7 => nr (@DN.putIO.eq_3 (s0 :: t0) x1 x2 x3 x4 x5 x6 x7)
@[simp] def zs_putIO_4 := fun (s0 : Sl) (t0 : List Sl) x1 x2 x3 x4 x5 x6 => nr (@DN.putIO.eq_4 (s0 :: t0) x1 x2 x3 x4 x5 x6)
@[simp] def zs_unIO_1 := fun (s0 : Sl) (t0 : List Sl) x1 => nr (@DN.unIO.eq_1 (s0 :: t0) x1)
@[simp] def zs_ioSl_1 := fun x0 x1 x2 => nr (@DN.ioSl.eq_1 x0 x1 x2)
@[simp] def zs_ioSl_2 := fun x0 x1 x2 x3 x4 => nr (@DN.ioSl.eq_2 x0 x1 x2 x3 x4)
@[simp] def zs_ioSl_3 := fun x0 x1 x2 x3 => nr (@DN.ioSl.eq_3 x0 x1 x2 x3)
@[simp] def zs_lnSl_1 := fun x0 x1 x2 => nr (@DN.lnSl.eq_1 x0 x1 x2)
@[simp] def zs_lnSl_2 := fun x0 x1 x2 x3 x4 => nr (@DN.lnSl.eq_2 x0 x1 x2 x3 x4)
@[simp] def zs_lnSl_3 := fun x0 x1 x2 x3 => nr (@DN.lnSl.eq_3 x0 x1 x2 x3)
@[simp] def zs_ownAt_1 := fun (s0 : Sl) (t0 : List Sl) x1 => nr (@DN.ownAt.eq_1 (s0 :: t0) x1)
@[simp] def zs_dAug_1 := fun x0 x1 x2 (s3 : Sl) (t3 : List Sl) => nr (@DN.dAug.eq_1 x0 x1 x2 (s3 :: t3))
@[simp] def zs_dPar_1 := fun x0 x1 (s2 : Sl) (t2 : List Sl) => nr (@DN.dPar.eq_1 x0 x1 (s2 :: t2))
@[simp] def zs_partsR_1 := fun (s0 : Sl) (t0 : List Sl) x1 => nr (@DN.partsR.eq_1 (s0 :: t0) x1)
@[simp] def zs_partsR_2 := fun (s0 : Sl) (t0 : List Sl) x1 x2 => nr (@DN.partsR.eq_2 (s0 :: t0) x1 x2)
@[simp] def zs_settle_1 := fun (s0 : Sl) (t0 : List Sl) => nr (@DN.settle.eq_1 (s0 :: t0))
@[simp] def zs_settle_2 := fun (s0 : Sl) (t0 : List Sl) x1 x2 => nr (@DN.settle.eq_2 (s0 :: t0) x1 x2)
@[simp] def zs_settle_3 := fun (s0 : Sl) (t0 : List Sl) x1 x2 => nr (@DN.settle.eq_3 (s0 :: t0) x1 x2)
@[simp] def zs_settle_4 := fun (s0 : Sl) (t0 : List Sl) x1 x2 x3 x4 => nr (@DN.settle.eq_4 (s0 :: t0) x1 x2 x3 x4)
@[simp] def zs_sets_1 := fun (s0 : Sl) (t0 : List Sl) x1 x2 x3 x4 => nr (@DN.sets.eq_1 (s0 :: t0) x1 x2 x3 x4)
@[simp] def zs_sets_2 := fun (s0 : Sl) (t0 : List Sl) x1 x2 x3 => nr (@DN.sets.eq_2 (s0 :: t0) x1 x2 x3)
@[simp] def zs_isLst_1 := fun x0 => nr (@DN.isLst.eq_1 x0)
@[simp] def zs_isLst_2 := fun x0 x1 => nr (@DN.isLst.eq_2 x0 x1)
@[simp] def zs_closeL_1 := fun (s0 : Sl) (t0 : List Sl) => nr (@DN.closeL.eq_1 (s0 :: t0))
@[simp] def zs_closeL_2 := fun (s0 : Sl) (t0 : List Sl) x1 x2 => nr (@DN.closeL.eq_2 (s0 :: t0) x1 x2)
@[simp] def zs_closeL_3 := fun (s0 : Sl) (t0 : List Sl) x1 x2 => nr (@DN.closeL.eq_3 (s0 :: t0) x1 x2)
@[simp] def zs_closeL_4 := fun (s0 : Sl) (t0 : List Sl) x1 x2 => nr (@DN.closeL.eq_4 (s0 :: t0) x1 x2)
@[simp] def zs_closeL_5 := fun (s0 : Sl) (t0 : List Sl) x1 x2 => nr (@DN.closeL.eq_5 (s0 :: t0) x1 x2)
@[simp] def zs_dIt_1 := fun x0 (s1 : Sl) (t1 : List Sl) => nr (@DN.dIt.eq_1 x0 (s1 :: t1))
@[simp] def zs_dEnum_1 := fun x0 (s1 : Sl) (t1 : List Sl) => nr (@DN.dEnum.eq_1 x0 (s1 :: t1))
@[simp] def zs_dZip_1 := fun x0 (s1 : Sl) (t1 : List Sl) => nr (@DN.dZip.eq_1 x0 (s1 :: t1))
@[simp] def zs_pairR_1 := fun x0 x1 => nr (@DN.pairR.eq_1 x0 x1)
@[simp] def zs_dFor_1 := fun x0 x1 x2 (s3 : Sl) (t3 : List Sl) => nr (@DN.dFor.eq_1 x0 x1 x2 (s3 :: t3))
@[simp] def zs_dItLn_1 := fun x0 (s1 : Sl) (t1 : List Sl) => nr (@DN.dItLn.eq_1 x0 (s1 :: t1))
@[simp] def zs_dZipLn_1 := fun x0 x1 (s1 : Sl) (t1 : List Sl) => nr (@DN.dZipLn.eq_1 x0 x1 (s1 :: t1))
@[simp] def zs_zipLn1_1 := fun x0 (s1 : Sl) (t1 : List Sl) x1 => nr (@DN.zipLn1.eq_1 x0 (s1 :: t1) x1)
@[simp] def zs_zipLn2_1 := fun x0 (s1 : Sl) (t1 : List Sl) x1 => nr (@DN.zipLn2.eq_1 x0 (s1 :: t1) x1)
@[simp] def zs_dEnLn_1 := fun x0 (s1 : Sl) (t1 : List Sl) => nr (@DN.dEnLn.eq_1 x0 (s1 :: t1))
@[simp] def zs_lnD_1 := fun (s0 : Sl) (t0 : List Sl) x1 => nr (@DN.lnD.eq_1 (s0 :: t0) x1)
@[simp] def zs_dLendS_1 := fun x0 x1 (s2 : Sl) (t2 : List Sl) => nr (@DN.dLendS.eq_1 x0 x1 (s2 :: t2))
@[simp] def zs_unlend_1 := fun x0 x1 (s2 : Sl) (t2 : List Sl) x3 => nr (@DN.unlend.eq_1 x0 x1 (s2 :: t2) x3)
@[simp] def zs_unlend_2 := fun x0 x1 (s2 : Sl) (t2 : List Sl) x3 => nr (@DN.unlend.eq_2 x0 x1 (s2 :: t2) x3)
@[simp] def zs_unlend_3 := fun x0 x1 => nr (@DN.unlend.eq_3 x0 x1)
@[simp] def zs_slotOf_1 := fun x0 => nr (@DN.slotOf.eq_1 x0)
@[simp] def zs_slotOf_2 := fun x0 => nr (@DN.slotOf.eq_2 x0)
@[simp] def zs_slotOf_3 := fun x0 x1 x2 => nr (@DN.slotOf.eq_3 x0 x1 x2)
@[simp] def zs_dLend_1 := fun x0 x1 (s2 : Sl) (t2 : List Sl) => nr (@DN.dLend.eq_1 x0 x1 (s2 :: t2))
@[simp] def zs_unlendO_1 := fun x0 x1 x2 (s3 : Sl) (t3 : List Sl) x4 => nr (@DN.unlendO.eq_1 x0 x1 x2 (s3 :: t3) x4)
@[simp] def zs_unlendO_2 := fun x0 x1 x2 (s3 : Sl) (t3 : List Sl) x4 => nr (@DN.unlendO.eq_2 x0 x1 x2 (s3 :: t3) x4)
@[simp] def zs_unlendO_3 := fun x0 x1 x2 => nr (@DN.unlendO.eq_3 x0 x1 x2)
@[simp] def zs_dUS_1 := fun (s0 : Sl) (t0 : List Sl) => nr (@DN.dUS.eq_1 (s0 :: t0))
@[simp] def zs_dUE_1 := fun (s0 : Sl) (t0 : List Sl) => nr (@DN.dUE.eq_1 (s0 :: t0))
@[simp] def zs_dUT_1 := fun (s0 : Sl) (t0 : List Sl) => nr (@DN.dUT.eq_1 (s0 :: t0))
@[simp] def zs_dDnew_1 := fun (s0 : Sl) (t0 : List Sl) => nr (@DN.dDnew.eq_1 (s0 :: t0))
@[simp] def zs_dCallS_1 := fun x0 x1 x2 x3 x4 (s5 : Sl) (t5 : List Sl) => nr (@DN.dCallS.eq_1 x0 x1 x2 x3 x4 (s5 :: t5))
@[simp] def zs_swaps_1 := fun x0 x1 x2 => nr (@DN.swaps.eq_1 x0 x1 x2)
@[simp] def zs_swapAt_1 := fun x0 x1 x2 x3 => nr (@DN.swapAt.eq_1 x0 x1 x2 x3)
@[simp] def zs_swapAt_2 := fun x0 x1 x2 x3 => nr (@DN.swapAt.eq_2 x0 x1 x2 x3)
@[simp] def zs_swapAt_3 := fun x0 x1 x2 x3 x4 => nr (@DN.swapAt.eq_3 x0 x1 x2 x3 x4)
@[simp] def zs_dNoPart_1 := fun (s0 : Sl) (t0 : List Sl) => nr (@DN.dNoPart.eq_1 (s0 :: t0))
@[simp] def zs_dSl_1 := fun x0 x1 x2 (s3 : Sl) (t3 : List Sl) => nr (@DN.dSl.eq_1 x0 x1 x2 (s3 :: t3))
@[simp] def zs_dPk_1 := fun x0 x1 x2 x3 (s4 : Sl) (t4 : List Sl) => nr (@DN.dPk.eq_1 x0 x1 x2 x3 (s4 :: t4))
@[simp] def zs_scalD_1 := nr (@DN.scalD.eq_1)
@[simp] def zs_scalD_2 := fun x0 => nr (@DN.scalD.eq_2 x0)
@[simp] def zs_scalD_3 := fun x0 => nr (@DN.scalD.eq_3 x0)
@[simp] def zs_scalD_4 := fun x0 => nr (@DN.scalD.eq_4 x0)
@[simp] def zs_scalD_5 := fun x0 => nr (@DN.scalD.eq_5 x0)
@[simp] def zs_scalD_6 := fun x0 => nr (@DN.scalD.eq_6 x0)
@[simp] def zs_scalD_7 := fun x0 x1 x2 x3 x4 x5 x6 => nr (@DN.scalD.eq_7 x0 x1 x2 x3 x4 x5 x6)
@[simp] def zs_gRev_1 := fun x0 => nr (@DN.gRev.eq_1 x0)
@[simp] def zs_gRev_2 := fun x0 => nr (@DN.gRev.eq_2 x0)
@[simp] def zs_gRev_3 := fun x0 x1 x2 => nr (@DN.gRev.eq_3 x0 x1 x2)
@[simp] def zs_gFld_1 := fun x0 x1 x2 x3 => nr (@DN.gFld.eq_1 x0 x1 x2 x3)
@[simp] def zs_fldD_1 := fun x0 => nr (@DN.fldD.eq_1 x0)
@[simp] def zs_fldD_2 := fun x0 x1 x2 x3 => nr (@DN.fldD.eq_2 x0 x1 x2 x3)
@[simp] def zs_putFD_1 := fun x0 x1 => nr (@DN.putFD.eq_1 x0 x1)
@[simp] def zs_putFD_2 := fun x0 x1 x2 x3 x4 => nr (@DN.putFD.eq_2 x0 x1 x2 x3 x4)
@[simp] theorem zt_putAt (cs : List PySem.Str) (f : PySem.Str) (d : D) (C : PySem.Str) (fs : List (PySem.Str × D)) : putAt cs f d (some (.ins C fs)) = if C ∈ cs then (if fs.length < 1000 then some (.ins C (putFD f d fs)) else none) else none := nr rfl
@[simp] theorem zt_finFld (ρ : Env) (j : Nat) (x : D) : finFld ρ j (some x) = .ok (ρ.set j (.own x)) () := nr rfl
@[simp] theorem zt_storeF (j : Nat) (cs : List PySem.Str) (f : PySem.Str) (s : Sl) (t : List Sl) (r : R) : storeF j cs f (s :: t) r = (esc (s :: t) r).bind fun ρ d => finFld ρ j (putAt cs f d (ownAt ρ j)) := nr rfl
@[simp] theorem zt_putTs0 (ρ : Env) : putTs [] [] ρ = some ρ := nr rfl
@[simp] theorem zt_putTs1 (i : Nat) (ts : List Tg) (d : D) (ds : List D) (s : Sl) (t : List Sl) : putTs (.nm i :: ts) (d :: ds) (s :: t) = putTs ts ds ((s :: t).set i (.fz d)) := nr rfl
def nextT (ts : List Tg) (ds : List D) (ρ : Env) (j : Nat) : Option D → Option Env
  | some x => putTs ts ds (ρ.set j (.own x))
  | none => none
@[simp] theorem zt_putTs2 (j : Nat) (cs : List PySem.Str) (f : PySem.Str) (ts : List Tg) (d : D) (ds : List D) (s : Sl) (t : List Sl) : putTs (.fld j cs f :: ts) (d :: ds) (s :: t) = nextT ts ds (s :: t) j (putAt cs f d (ownAt (s :: t) j)) := by
  show ((putAt cs f d (ownAt (s :: t) j)).map _).bind _ = _
  cases putAt cs f d (ownAt (s :: t) j) <;> rfl
@[simp] theorem zt_putTs3 (j i : Nat) (ts : List Tg) (d : D) (ds : List D) (s : Sl) (t : List Sl) : putTs (.ix j i :: ts) (d :: ds) (s :: t) = nextT ts ds (s :: t) j (ixAt d (ownAt (s :: t) j) (lnD (s :: t) i)) := by
  show ((ixAt d (ownAt (s :: t) j) (lnD (s :: t) i)).map _).bind _ = _
  cases ixAt d (ownAt (s :: t) j) (lnD (s :: t) i) <;> rfl
@[simp] theorem zt_ixAt (d x : D) (n : Nat) : ixAt d (some x) (some (.int (n : Int))) = gPut x (.int (n : Int)) d := nr rfl
@[simp] theorem zt_nextT (ts : List Tg) (ds : List D) (ρ : Env) (j : Nat) (x : D) : nextT ts ds ρ j (some x) = putTs ts ds (ρ.set j (.own x)) := nr rfl
def finT2 : Option Env → O Unit
  | some ρ => .ok ρ ()
  | none => .un
def finT1 (ts : List Tg) : Option (Env × List D) → O Unit
  | some (ρ, ds) => finT2 (putTs ts ds ρ)
  | none => .un
def useT (ts : List Tg) (ρ : Env) : Option (List R) → O Unit
  | some rs => if rs.length = ts.length then finT1 ts (escRs ρ rs) else .un
  | none => .un
@[simp] theorem zt_storeT (ts : List Tg) (s : Sl) (t : List Sl) (r : R) : storeT ts (s :: t) r = useT ts (s :: t) (partsR (s :: t) r) := by
  unfold storeT
  cases partsR (s :: t) r with
  | none => rfl
  | some rs =>
    show escTs ts (s :: t) rs = (if rs.length = ts.length then _ else _)
    unfold escTs
    congr 1
@[simp] theorem zt_useT (ts : List Tg) (ρ : Env) (rs : List R) : useT ts ρ (some rs) = if rs.length = ts.length then finT1 ts (escRs ρ rs) else .un := nr rfl
@[simp] theorem zt_finT1 (ts : List Tg) (ρ : Env) (ds : List D) : finT1 ts (some (ρ, ds)) = finT2 (putTs ts ds ρ) := nr rfl
@[simp] theorem zt_finT2 (ρ : Env) : finT2 (some ρ) = .ok ρ () := nr rfl
def argMk (C : PySem.Str) (ms : List Md) (m : List D → FO) : Option (Env × List R) → O R
  | some (ρ1, rs1) => if ioOk ms rs1 = true then mkRun C ms m ρ1 rs1 (passB ρ1 ms rs1) else .un
  | none => .un
@[simp] theorem zt_dMake (C : PySem.Str) (ms : List Md) (m : List D → FO) (fs : Env → O (List R)) (s : Sl) (t : List Sl) : dMake C ms m fs (s :: t) = (fs (s :: t)).bind fun ρ rs => makeM C ms m ρ rs := nr rfl
@[simp] theorem zt_makeM (C : PySem.Str) (ms : List Md) (m : List D → FO) (s : Sl) (t : List Sl) (rs : List R) : makeM C ms m (s :: t) rs = argMk C ms m (passA (s :: t) ms rs) := by
  unfold makeM
  cases passA (s :: t) ms rs <;> rfl
@[simp] theorem zt_argMk (C : PySem.Str) (ms : List Md) (m : List D → FO) (ρ : Env) (rs : List R) : argMk C ms m (some (ρ, rs)) = if ioOk ms rs = true then mkRun C ms m ρ rs (passB ρ ms rs) else .un := nr rfl
@[simp] theorem zt_mkRun (C : PySem.Str) (ms : List Md) (m : List D → FO) (ρ : Env) (rs : List R) (ds : List D) : mkRun C ms m ρ rs (some ds) = mkFin ms ρ rs (m (.ins C [] :: ds)) := nr rfl
@[simp] theorem zt_mkFin (ms : List Md) (ρ : Env) (rs : List R) (d : D) (outs : List D) : mkFin ms ρ rs (.ok (d :: outs) (.fz .non)) = .ok (putIO (unIO ρ (ioSl ms rs)) ms rs outs) (.own d) := nr rfl
@[simp] theorem zt_mkFinE (ms : List Md) (ρ : Env) (rs : List R) (d : D) (outs : List D) (e : Er) : mkFin ms ρ rs (.er (d :: outs) e) = .er (putIO (unIO ρ (ioSl ms rs)) ms rs outs) e := nr rfl
@[simp] theorem zt_dMeth (m : PySem.Str) (ms : List Md) (tb : List (PySem.Str × (List D → FO))) (fo : Env → O R) (fs : Env → O (List R)) (s : Sl) (t : List Sl) : dMeth m ms tb fo fs (s :: t) = (dN fo (s :: t)).bind fun ρ r => isMe m ms tb fs ρ r (useR ρ r) := nr rfl
@[simp] theorem zt_isMe (m : PySem.Str) (ms : List Md) (tb : List (PySem.Str × (List D → FO))) (fs : Env → O (List R)) (ρ : Env) (r : R) (C : PySem.Str) (fl : List (PySem.Str × D)) : isMe m ms tb fs ρ r (some (.ins C fl)) = if fldD m fl = none then runMe ms fs ρ r (altD tb C) else .un := nr rfl
@[simp] theorem zt_runMe (ms : List Md) (fs : Env → O (List R)) (ρ : Env) (r : R) (d : List D → FO) : runMe ms fs ρ r (some d) = (fs ρ).bind fun ρ rs => callM ms d ρ (r :: rs) := nr rfl
@[simp] theorem zt_altD (p : PySem.Str × (List D → FO)) (tb : List (PySem.Str × (List D → FO))) (C : PySem.Str) : altD (p :: tb) C = if p.1 = C then some p.2 else altD tb C := nr rfl
@[simp] theorem zt_dStar (f : Env → O R) (fs : Env → O (List R)) (s : Sl) (t : List Sl) : dStar f fs (s :: t) = (dN f (s :: t)).bind fun ρ r => finStar ρ fs ((useR ρ r).bind itemsR) := nr rfl
@[simp] theorem zt_itemsR (ds : List D) : itemsR (.lst ds) = some (ds.map R.fz) := nr rfl
@[simp] theorem zt_itemsRt (ds : List D) : itemsR (.tup ds) = some (ds.map R.fz) := nr rfl
@[simp] theorem zt_finStar (ρ : Env) (fs : Env → O (List R)) (is : List R) : finStar ρ fs (some is) = (fs ρ).bind fun ρ rs => .ok ρ (is ++ rs) := nr rfl
theorem escRs_fz (ρ : Env) : ∀ (ds : List D) (rs : List R), escRs ρ (ds.map R.fz ++ rs) = (escRs ρ rs).map fun p => (p.1, ds ++ p.2)
  | [], rs => by
    show escRs ρ rs = _
    cases escRs ρ rs <;> rfl
  | d :: ds, rs => by
    show escRs ρ (.fz d :: (ds.map R.fz ++ rs)) = _
    conv => lhs; unfold escRs; simp only [escR]; rw [escRs_fz ρ ds rs]
    cases escRs ρ rs <;> rfl
theorem escRs_fz0 (ρ : Env) (ds : List D) : escRs ρ (ds.map R.fz) = some (ρ, ds) := by
  have := escRs_fz ρ ds []
  rw [List.append_nil] at this
  rw [this]
  show (some (ρ, [])).map _ = _
  simp
@[simp] theorem escs_app (s : Sl) (t : List Sl) (ds : List D) (rs : List R) : escs (s :: t) (ds.map R.fz ++ rs) = (escs (s :: t) rs).bind fun ρ es => .ok ρ (ds ++ es) := by
  unfold escs
  rw [escRs_fz]
  cases escRs (s :: t) rs <;> rfl
@[simp] theorem escs_map (s : Sl) (t : List Sl) (ds : List D) : escs (s :: t) (ds.map R.fz) = .ok (s :: t) ds := by
  unfold escs
  rw [escRs_fz0]
@[simp] theorem zt_dGet (fo fk fd : Env → O R) (s : Sl) (t : List Sl) : dGet fo fk fd (s :: t) = (dN fo (s :: t)).bind fun ρ r1 => if isDct (useR ρ r1) = true then (dN fk ρ).bind fun ρ r2 => (dE fd ρ).bind fun ρ r3 => finGet ρ r3 (useR ρ r2) (useR ρ r1) else .un := nr rfl
@[simp] theorem zt_isDct (kvs : List (L2.Key × D)) : isDct (some (.dct kvs)) = true := nr rfl
@[simp] theorem zt_finGet (ρ : Env) (d y x : D) : finGet ρ (.fz d) (some y) (some x) = ret ρ (getOr x y d) := nr rfl
@[simp] theorem zt_dFlat (fi : Env → O (List R)) (i j : Nat) (s : Sl) (t : List Sl) : dFlat fi i j (s :: t) = (fi (s :: t)).bind fun ρ items => if (noOwnAt ρ [i, j] && (decide (i < ρ.length) && decide (j < ρ.length))) = true then finFlat ρ (flatR items) else .un := nr rfl
@[simp] theorem zt_finFlat (ρ : Env) (ds : List D) : finFlat ρ (some ds) = if ds.length < 100000 then .ok ρ (.own (.lst ds)) else .un := nr rfl
end DN
namespace DN
def finBM (ρ : Env) (j : Nat) : Option (D × D) → O R
  | some (d', y) => .ok (ρ.set j (.own d')) (.fz y)
  | none => .un
def ownBM (g : D → List D → Option (D × D)) (ds : List D) (ρ : Env) (j : Nat) : Option Sl → O R
  | some (.own d) => finBM ρ j (g d ds)
  | _ => .un
def isBM (j : Nat) (okT : D → Bool) (g : D → List D → Option (D × D)) (fs : Env → O (List R)) (ρ : Env) : Option Sl → O R
  | some (.own d0) => if okT d0 = true then (fs ρ).bind fun ρ rs => (escs ρ rs).bind fun ρ ds => ownBM g ds ρ j ρ[j]? else .un
  | _ => .un
theorem dBM_eq (j : Nat) (okT : D → Bool) (g : D → List D → Option (D × D)) (fs : Env → O (List R)) (ρ : Env) : dBM j okT g fs ρ = isBM j okT g fs ρ ρ[j]? := by
  unfold dBM isBM
  cases ρ[j]? with
  | none => rfl
  | some x => cases x <;> rfl
@[simp] theorem zt_dBM (j : Nat) (okT : D → Bool) (g : D → List D → Option (D × D)) (fs : Env → O (List R)) (s : Sl) (t : List Sl) : dBM j okT g fs (s :: t) = isBM j okT g fs (s :: t) (s :: t)[j]? := dBM_eq j okT g fs (s :: t)
@[simp] theorem zt_isBM (j : Nat) (okT : D → Bool) (g : D → List D → Option (D × D)) (fs : Env → O (List R)) (ρ : Env) (d0 : D) : isBM j okT g fs ρ (some (.own d0)) = if okT d0 = true then (fs ρ).bind fun ρ rs => (escs ρ rs).bind fun ρ ds => ownBM g ds ρ j ρ[j]? else .un := nr rfl
@[simp] theorem zt_ownBM (g : D → List D → Option (D × D)) (ds : List D) (ρ : Env) (j : Nat) (d : D) : ownBM g ds ρ j (some (.own d)) = finBM ρ j (g d ds) := nr rfl
@[simp] theorem zt_finBM (ρ : Env) (j : Nat) (d y : D) : finBM ρ j (some (d, y)) = .ok (ρ.set j (.own d)) (.fz y) := nr rfl
def finRng (ρ : Env) : Option (Int × Int × Nat) → O (List R)
  | some (lo, c, n) => .ok ρ (rngItems lo c n)
  | none => .un
def useRng (g : List D → Option (Int × Int × Nat)) (ρ : Env) : Option (List D) → O (List R)
  | some ds => finRng ρ (g ds)
  | none => .un
@[simp] theorem zt_dRng (g : List D → Option (Int × Int × Nat)) (fs : Env → O (List R)) (s : Sl) (t : List Sl) : dRng g fs (s :: t) = (fs (s :: t)).bind fun ρ rs => useRng g ρ (usesR ρ rs) := by
  unfold dRng
  congr 1
@[simp] theorem zt_useRng (g : List D → Option (Int × Int × Nat)) (ρ : Env) (ds : List D) : useRng g ρ (some ds) = finRng ρ (g ds) := nr rfl
@[simp] theorem zt_finRng (ρ : Env) (lo c : Int) (n : Nat) : finRng ρ (some (lo, c, n)) = .ok ρ (rngItems lo c n) := nr rfl
def finM (ms : List Md) (ρ : Env) (rs : List R) : FO → O R
  | .ok outs r => .ok (putIO (unIO ρ (ioSl ms rs)) ms rs outs) r
  | .er outs e => .er (putIO (unIO ρ (ioSl ms rs)) ms rs outs) e
  | .un => .un
def runM (ms : List Md) (m : List D → FO) (ρ : Env) (rs : List R) : Option (List D) → O R
  | some ds => finM ms ρ rs (m ds)
  | none => .un
def argM (ms : List Md) (m : List D → FO) : Option (Env × List R) → O R
  | some (ρ1, rs1) => if ioOk ms rs1 = true then runM ms m ρ1 rs1 (passB ρ1 ms rs1) else .un
  | none => .un
theorem callM_eq (ms : List Md) (m : List D → FO) (ρ : Env) (rs : List R) : callM ms m ρ rs = argM ms m (passA ρ ms rs) := by
  unfold callM
  cases passA ρ ms rs with
  | none => rfl
  | some p =>
    show (if ioOk ms p.2 = true then _ else _) = (if ioOk ms p.2 = true then runM ms m p.1 p.2 (passB p.1 ms p.2) else .un)
    congr 1
@[simp] theorem zt_callM (ms : List Md) (m : List D → FO) (s : Sl) (t : List Sl) (rs : List R) : callM ms m (s :: t) rs = argM ms m (passA (s :: t) ms rs) := callM_eq ms m (s :: t) rs
@[simp] theorem zt_argM (ms : List Md) (m : List D → FO) (ρ : Env) (rs : List R) : argM ms m (some (ρ, rs)) = if ioOk ms rs = true then runM ms m ρ rs (passB ρ ms rs) else .un := nr rfl
@[simp] theorem zt_runM (ms : List Md) (m : List D → FO) (ρ : Env) (rs : List R) (ds : List D) : runM ms m ρ rs (some ds) = finM ms ρ rs (m ds) := nr rfl
@[simp] theorem zt_finM (ms : List Md) (ρ : Env) (rs : List R) (outs : List D) (r : R) : finM ms ρ rs (.ok outs r) = .ok (putIO (unIO ρ (ioSl ms rs)) ms rs outs) r := nr rfl
@[simp] theorem zt_finMe (ms : List Md) (ρ : Env) (rs : List R) (outs : List D) (e : Er) : finM ms ρ rs (.er outs e) = .er (putIO (unIO ρ (ioSl ms rs)) ms rs outs) e := nr rfl
def finSet (ρ : Env) (j : Nat) : Option D → O Fl
  | some x => .ok (ρ.set j (.own x)) .nx
  | none => .un
def useSet (gs : D → D → D → Option D) (ρ : Env) (j : Nat) : R → Option D → Option D → O Fl
  | .fz d, some y, some x => finSet ρ j (gs x y d)
  | _, _, _ => .un
def isSet (j : Nat) (gs : D → D → D → Option D) (fi : Env → O R) (ρ : Env) (r : R) : Option D → O Fl
  | some _ => (dN fi ρ).bind fun ρ ri => useSet gs ρ j r (useR ρ ri) (ownAt ρ j)
  | none => .un
theorem dSetI_eq (j : Nat) (gs : D → D → D → Option D) (fi fv : Env → O R) (ρ : Env) : dSetI j gs fi fv ρ = (dE fv ρ).bind fun ρ r => isSet j gs fi ρ r (ownAt ρ j) := by
  unfold dSetI
  congr 1
@[simp] theorem zt_dSetI (j : Nat) (gs : D → D → D → Option D) (fi fv : Env → O R) (s : Sl) (t : List Sl) : dSetI j gs fi fv (s :: t) = (dE fv (s :: t)).bind fun ρ r => isSet j gs fi ρ r (ownAt ρ j) := dSetI_eq j gs fi fv (s :: t)
@[simp] theorem zt_isSet (j : Nat) (gs : D → D → D → Option D) (fi : Env → O R) (ρ : Env) (r : R) (d : D) : isSet j gs fi ρ r (some d) = (dN fi ρ).bind fun ρ ri => useSet gs ρ j r (useR ρ ri) (ownAt ρ j) := nr rfl
@[simp] theorem zt_useSet (gs : D → D → D → Option D) (ρ : Env) (j : Nat) (d y x : D) : useSet gs ρ j (.fz d) (some y) (some x) = finSet ρ j (gs x y d) := nr rfl
@[simp] theorem zt_finSet (ρ : Env) (j : Nat) (x : D) : finSet ρ j (some x) = .ok (ρ.set j (.own x)) .nx := nr rfl
def finTest (ρ : Env) : Option D → O Bool
  | some (.bl b) => .ok ρ b
  | _ => .un
@[simp] theorem zt_dTest (f : Env → O R) (s : Sl) (t : List Sl) : dTest f (s :: t) = (dN f (s :: t)).bind fun ρ r => finTest ρ (useR ρ r) := by
  unfold dTest
  congr 1
@[simp] theorem zt_finTest (ρ : Env) (b : Bool) : finTest ρ (some (.bl b)) = .ok ρ b := nr rfl
def finOp (g : D → D → Option R) (ρ : Env) : Option D → Option D → O R
  | some x, some y => ret ρ (g x y)
  | _, _ => .un
@[simp] theorem zt_lift2 (g : D → D → Option R) (s : Sl) (t : List Sl) (r1 r2 : R) : lift2 g (s :: t) r1 r2 = finOp g (s :: t) (useR (s :: t) r1) (useR (s :: t) r2) := by
  unfold lift2
  rfl
@[simp] theorem zt_finOp (g : D → D → Option R) (ρ : Env) (x y : D) : finOp g ρ (some x) (some y) = ret ρ (g x y) := nr rfl
def finCB (g : List D → Option R) (ρ : Env) : Option (List D) → O R
  | some ds => ret ρ (g ds)
  | none => .un
@[simp] theorem zt_dCB (g : List D → Option R) (fs : Env → O (List R)) (s : Sl) (t : List Sl) : dCB g fs (s :: t) = (fs (s :: t)).bind fun ρ rs => finCB g ρ (usesR ρ rs) := by
  unfold dCB
  congr 1
@[simp] theorem zt_finCB (g : List D → Option R) (ρ : Env) (ds : List D) : finCB g ρ (some ds) = ret ρ (g ds) := nr rfl
def finCh2 (g' : D → D → Option R) (ρ : Env) : Option D → Option D → O R
  | some y, some z => ret ρ (g' y z)
  | _, _ => .un
def finCh (g' : D → D → Option R) (c : Env → O R) (ρ : Env) (r2 : R) : Option R → O R
  | some (.fz (.bl true)) => (dN c ρ).bind fun ρ r3 => finCh2 g' ρ (useR ρ r2) (useR ρ r3)
  | some (.fz (.bl false)) => .ok ρ (.fz (.bl false))
  | _ => .un
def useCh (g g' : D → D → Option R) (c : Env → O R) (ρ : Env) (r2 : R) : Option D → Option D → O R
  | some x, some y => finCh g' c ρ r2 (g x y)
  | _, _ => .un
@[simp] theorem zt_dChain (g g' : D → D → Option R) (f h c : Env → O R) (s : Sl) (t : List Sl) : dChain g g' f h c (s :: t) = (dN f (s :: t)).bind fun ρ r1 => (dN h ρ).bind fun ρ r2 => useCh g g' c ρ r2 (useR ρ r1) (useR ρ r2) := by
  unfold dChain
  congr 1
@[simp] theorem zt_useCh (g g' : D → D → Option R) (c : Env → O R) (ρ : Env) (r2 : R) (x y : D) : useCh g g' c ρ r2 (some x) (some y) = finCh g' c ρ r2 (g x y) := nr rfl
@[simp] theorem zt_finChT (g' : D → D → Option R) (c : Env → O R) (ρ : Env) (r2 : R) : finCh g' c ρ r2 (some (.fz (.bl true))) = (dN c ρ).bind fun ρ r3 => finCh2 g' ρ (useR ρ r2) (useR ρ r3) := nr rfl
@[simp] theorem zt_finChF (g' : D → D → Option R) (c : Env → O R) (ρ : Env) (r2 : R) : finCh g' c ρ r2 (some (.fz (.bl false))) = .ok ρ (.fz (.bl false)) := nr rfl
@[simp] theorem zt_finChB (g' : D → D → Option R) (c : Env → O R) (ρ : Env) (r2 : R) (b : Bool) : finCh g' c ρ r2 (some (.fz (.bl b))) = if b = true then (dN c ρ).bind fun ρ r3 => finCh2 g' ρ (useR ρ r2) (useR ρ r3) else .ok ρ (.fz (.bl false)) := by cases b <;> rfl
@[simp] theorem zt_finCh2 (g' : D → D → Option R) (ρ : Env) (x y : D) : finCh2 g' ρ (some x) (some y) = ret ρ (g' x y) := nr rfl
def finMR (g : D → List D → Option R) (ρ : Env) : Option D → Option (List D) → O R
  | some d, some ds => ret ρ (g d ds)
  | _, _ => .un
def isMR (okT : D → Bool) (g : D → List D → Option R) (fs : Env → O (List R)) (ρ : Env) (r : R) : Option D → O R
  | some d0 => if okT d0 = true then (fs ρ).bind fun ρ rs => finMR g ρ (useR ρ r) (usesR ρ rs) else .un
  | none => .un
@[simp] theorem zt_dMR (okT : D → Bool) (g : D → List D → Option R) (f : Env → O R) (fs : Env → O (List R)) (s : Sl) (t : List Sl) : dMR okT g f fs (s :: t) = (dN f (s :: t)).bind fun ρ r => isMR okT g fs ρ r (useR ρ r) := by
  unfold dMR
  congr 1
@[simp] theorem zt_isMR (okT : D → Bool) (g : D → List D → Option R) (fs : Env → O (List R)) (ρ : Env) (r : R) (d0 : D) : isMR okT g fs ρ r (some d0) = if okT d0 = true then (fs ρ).bind fun ρ rs => finMR g ρ (useR ρ r) (usesR ρ rs) else .un := nr rfl
@[simp] theorem zt_finMR (g : D → List D → Option R) (ρ : Env) (d : D) (ds : List D) : finMR g ρ (some d) (some ds) = ret ρ (g d ds) := nr rfl
def finAug2 (gs : D → D → D → Option D) (ρ : Env) (j : Nat) (y x2 : D) : Option R → O Fl
  | some (.fz z) => finSet ρ j (gs x2 y z)
  | _ => .un
def useAug2 (op : D → D → Option R) (gs : D → D → D → Option D) (ρ : Env) (j : Nat) (y d0 : D) : Option D → Option D → O Fl
  | some w, some x2 => finAug2 gs ρ j y x2 (op d0 w)
  | _, _ => .un
def finAug (op : D → D → Option R) (gs : D → D → D → Option D) (fv : Env → O R) (ρ : Env) (j : Nat) (y : D) : Option D → O Fl
  | some d0 => (dN fv ρ).bind fun ρ rv => useAug2 op gs ρ j y d0 (useR ρ rv) (ownAt ρ j)
  | none => .un
def useAug (go : D → D → Option D) (op : D → D → Option R) (gs : D → D → D → Option D) (fv : Env → O R) (ρ : Env) (j : Nat) : R → Option D → O Fl
  | .fz y, some x => finAug op gs fv ρ j y (go x y)
  | _, _ => .un
def isAug (j : Nat) (go : D → D → Option D) (op : D → D → Option R) (gs : D → D → D → Option D) (fi fv : Env → O R) (ρ : Env) : Option D → O Fl
  | some _ => (dE fi ρ).bind fun ρ ri => useAug go op gs fv ρ j ri (ownAt ρ j)
  | none => .un
@[simp] theorem zt_dAugI (j : Nat) (go : D → D → Option D) (op : D → D → Option R) (gs : D → D → D → Option D) (fi fv : Env → O R) (s : Sl) (t : List Sl) : dAugI j go op gs fi fv (s :: t) = isAug j go op gs fi fv (s :: t) (ownAt (s :: t) j) := by
  unfold dAugI
  cases ownAt (s :: t) j with
  | none => rfl
  | some d =>
    show (dE fi (s :: t)).bind _ = (dE fi (s :: t)).bind _
    congr 1
@[simp] theorem zt_isAug (j : Nat) (go : D → D → Option D) (op : D → D → Option R) (gs : D → D → D → Option D) (fi fv : Env → O R) (ρ : Env) (d : D) : isAug j go op gs fi fv ρ (some d) = (dE fi ρ).bind fun ρ ri => useAug go op gs fv ρ j ri (ownAt ρ j) := nr rfl
@[simp] theorem zt_useAug (go : D → D → Option D) (op : D → D → Option R) (gs : D → D → D → Option D) (fv : Env → O R) (ρ : Env) (j : Nat) (y x : D) : useAug go op gs fv ρ j (.fz y) (some x) = finAug op gs fv ρ j y (go x y) := nr rfl
@[simp] theorem zt_finAug (op : D → D → Option R) (gs : D → D → D → Option D) (fv : Env → O R) (ρ : Env) (j : Nat) (y d0 : D) : finAug op gs fv ρ j y (some d0) = (dN fv ρ).bind fun ρ rv => useAug2 op gs ρ j y d0 (useR ρ rv) (ownAt ρ j) := nr rfl
@[simp] theorem zt_useAug2 (op : D → D → Option R) (gs : D → D → D → Option D) (ρ : Env) (j : Nat) (y d0 w x2 : D) : useAug2 op gs ρ j y d0 (some w) (some x2) = finAug2 gs ρ j y x2 (op d0 w) := nr rfl
@[simp] theorem zt_finAug2 (gs : D → D → D → Option D) (ρ : Env) (j : Nat) (y x2 z : D) : finAug2 gs ρ j y x2 (some (.fz z)) = finSet ρ j (gs x2 y z) := nr rfl
def finPart (ρ : Env) : Option D → O (Option Int)
  | some (.int i) => .ok ρ (some i)
  | _ => .un
@[simp] theorem zt_dPart (f : Env → O R) (s : Sl) (t : List Sl) : dPart f (s :: t) = (dN f (s :: t)).bind fun ρ r => finPart ρ (useR ρ r) := by
  unfold dPart
  congr 1
@[simp] theorem zt_finPart (ρ : Env) (i : Int) : finPart ρ (some (.int i)) = .ok ρ (some i) := nr rfl
def finTru (ρ : Env) : Option Bool → O Bool
  | some b => .ok ρ b
  | none => .un
@[simp] theorem zt_dTru (f : Env → O R) (s : Sl) (t : List Sl) : dTru f (s :: t) = (dN f (s :: t)).bind fun ρ r => finTru ρ ((useR ρ r).bind truD) := by
  unfold dTru
  congr 1
@[simp] theorem zt_finTru (ρ : Env) (b : Bool) : finTru ρ (some b) = .ok ρ b := nr rfl
def finStN (is : List Nat) : Option (Env × List R) → O Unit
  | some (ρ', rs') => .ok (sets ρ' is rs') ()
  | none => .un
def useStN (is : List Nat) (ρ : Env) : Option (List R) → O Unit
  | some rs => if rs.length = is.length then finStN is (settle ρ rs) else .un
  | none => .un
@[simp] theorem zt_storeN (is : List Nat) (s : Sl) (t : List Sl) (r : R) : storeN is (s :: t) r = useStN is (s :: t) (partsR (s :: t) r) := by
  unfold storeN
  cases partsR (s :: t) r with
  | none => rfl
  | some rs =>
    show (if rs.length = is.length then _ else _) = (if rs.length = is.length then _ else _)
    congr 1
@[simp] theorem zt_useStN (is : List Nat) (ρ : Env) (rs : List R) : useStN is ρ (some rs) = if rs.length = is.length then finStN is (settle ρ rs) else .un := nr rfl
@[simp] theorem zt_finStN (is : List Nat) (ρ : Env) (rs : List R) : finStN is (some (ρ, rs)) = .ok (sets ρ is rs) () := nr rfl
def finF2 (r : R) : Option (List D) → FO
  | some outs => .ok outs r
  | none => .un
def finF2e (e : Er) : Option (List D) → FO
  | some outs => .er outs e
  | none => .un
def finF1 (ms : List Md) : Option (Env × R) → FO
  | some (ρ, r) => finF2 r (outsOf ρ ms 0)
  | none => .un
def finF (ms : List Md) : O Fl → FO
  | .ok ρ (.rt r) => finF1 ms (closeR ρ r)
  | .ok ρ .nx => finF2 (.fz .non) (outsOf ρ ms 0)
  | .er ρ e => finF2e e (outsOf ρ ms 0)
  | _ => .un
@[simp] theorem zt_denF (ms : List Md) (n : Nat) (body : Env → O Fl) (ds : List D) : denF ms n body ds = finF ms (body (env0 ms n ds)) := by
  unfold denF
  cases body (env0 ms n ds) with
  | ok ρ fl =>
    cases fl with
    | nx => rfl
    | rt r =>
      show (match closeR ρ r with
        | some (ρ', r') => (match outsOf ρ' ms 0 with
          | some outs => FO.ok outs r'
          | none => .un)
        | none => .un) = finF1 ms (closeR ρ r)
      cases closeR ρ r with
      | none => rfl
      | some p => rfl
    | bk => rfl
    | ct => rfl
  | er ρ e => rfl
  | un => rfl
@[simp] theorem zt_finF_rt (ms : List Md) (ρ : Env) (r : R) : finF ms (.ok ρ (.rt r)) = finF1 ms (closeR ρ r) := nr rfl
@[simp] theorem zt_finF_nx (ms : List Md) (ρ : Env) : finF ms (.ok ρ .nx) = finF2 (.fz .non) (outsOf ρ ms 0) := nr rfl
@[simp] theorem zt_finF_er (ms : List Md) (ρ : Env) (e : Er) : finF ms (.er ρ e) = finF2e e (outsOf ρ ms 0) := nr rfl
@[simp] theorem zt_finF1 (ms : List Md) (ρ : Env) (r : R) : finF1 ms (some (ρ, r)) = finF2 r (outsOf ρ ms 0) := nr rfl
@[simp] theorem zt_finF2 (r : R) (outs : List D) : finF2 r (some outs) = .ok outs r := nr rfl
@[simp] theorem zt_finF2e (e : Er) (outs : List D) : finF2e e (some outs) = .er outs e := nr rfl
end DN
namespace Gf
/-- what can be made of the masks -/
inductive Span : List Nat → Nat → Prop where
  | nil : Span [] 0
  | out {m ms x} : Span ms x → Span (m :: ms) x
  | inn {m ms x} : Span ms x → Span (m :: ms) (m ^^^ x)
theorem Span.zero : ∀ ms : List Nat, Span ms 0
  | [] => .nil
  | _ :: ms => .out (Span.zero ms)
theorem xor_l (a b c : Nat) : a ^^^ (b ^^^ c) = b ^^^ (a ^^^ c) := by
  rw [← Nat.xor_assoc, Nat.xor_comm a b, Nat.xor_assoc]
theorem xor_x (a b : Nat) : a ^^^ (a ^^^ b) = b := by
  rw [← Nat.xor_assoc, Nat.xor_self, Nat.zero_xor]
theorem Span.xor : ∀ {ms : List Nat} {x y : Nat}, Span ms x → Span ms y → Span ms (x ^^^ y)
  | _, _, _, .nil, .nil => .nil
  | _, _, _, .out a, .out b => .out (Span.xor a b)
  | _, _, _, .out (x := x) (m := m) a, .inn (x := y) b => by
    rw [xor_l]
    exact .inn (Span.xor a b)
  | _, _, _, .inn (x := x) a, .out b => by
    rw [Nat.xor_assoc]
    exact .inn (Span.xor a b)
  | _, _, _, .inn (m := m) (x := x) a, .inn (x := y) b => by
    have e : m ^^^ x ^^^ (m ^^^ y) = x ^^^ y := by rw [Nat.xor_assoc, xor_l x m y, xor_x]
    rw [e]
    exact .out (Span.xor a b)
theorem Span.mem : ∀ {ms : List Nat} {m : Nat}, m ∈ ms → Span ms m
  | x :: ms, m, h => by
    rcases List.mem_cons.mp h with rfl | h
    · have := Span.inn (m := m) (Span.zero ms)
      rwa [Nat.xor_zero] at this
    · exact .out (Span.mem h)
/-- all that can be made of these, those make too -/
theorem Span.sub : ∀ {ms ns : List Nat} {x : Nat}, (∀ m ∈ ms, Span ns m) → Span ms x → Span ns x
  | [], ns, x, _, h => by cases h; exact Span.zero ns
  | m :: ms, ns, x, q, h => by
    have q' : ∀ k ∈ ms, Span ns k := fun k hk => q k (List.mem_cons_of_mem _ hk)
    cases h with
    | out h => exact Span.sub q' h
    | inn h => exact (q m List.mem_cons_self).xor (Span.sub q' h)
theorem Span.of_mem {ms ns : List Nat} {x : Nat} (q : ∀ m ∈ ms, m ∈ ns) (h : Span ms x) : Span ns x := h.sub fun m hm => .mem (q m hm)
theorem Span.cons_inv {m : Nat} {ms : List Nat} {x : Nat} (h : Span (m :: ms) x) : Span ms x ∨ ∃ y, x = m ^^^ y ∧ Span ms y := by
  cases h with
  | out a => exact .inl a
  | inn a => exact .inr ⟨_, rfl, a⟩
theorem Span.snoc {ms : List Nat} {m x : Nat} : Span (ms ++ [m]) x ↔ Span ms x ∨ Span ms (x ^^^ m) := by
  constructor
  · intro h
    have : Span (m :: ms) x := h.of_mem fun k hk => by
      rcases List.mem_append.mp hk with hk | hk
      · exact List.mem_cons_of_mem _ hk
      · rw [List.mem_singleton.mp hk]; exact List.mem_cons_self
    rcases this.cons_inv with q | ⟨y, e, q⟩
    · exact .inl q
    · refine .inr ?_
      rw [e, Nat.xor_comm m y, Nat.xor_assoc, Nat.xor_self, Nat.xor_zero]
      exact q
  · intro h
    rcases h with h | h
    · exact h.of_mem fun k hk => List.mem_append_left _ hk
    · have h1 : Span (ms ++ [m]) (x ^^^ m) := h.of_mem fun k hk => List.mem_append_left _ hk
      have h2 : Span (ms ++ [m]) m := .mem (List.mem_append_right _ List.mem_cons_self)
      have := h1.xor h2
      rwa [Nat.xor_assoc, Nat.xor_self, Nat.xor_zero] at this
theorem Span.bound {n : Nat} : ∀ {ms : List Nat} {x : Nat}, (∀ m ∈ ms, m < 2 ^ n) → Span ms x → x < 2 ^ n
  | _, _, _, .nil => Nat.two_pow_pos n
  | _, _, q, .out h => Span.bound (fun m hm => q m (List.mem_cons_of_mem _ hm)) h
  | _, _, q, .inn h => Nat.xor_lt_two_pow (q _ List.mem_cons_self) (Span.bound (fun m hm => q m (List.mem_cons_of_mem _ hm)) h)
open Classical in
noncomputable def rkFrom (ahead : List Nat) : List Nat → Nat
  | [] => 0
  | m :: ms => (if Span ahead m then 0 else 1) + rkFrom (ahead ++ [m]) ms
noncomputable def rk (ms : List Nat) : Nat := rkFrom [] ms
theorem rkFrom_app (a : List Nat) : ∀ (b c : List Nat), rkFrom a (b ++ c) = rkFrom a b + rkFrom (a ++ b) c := by
  intro b
  induction b generalizing a with
  | nil => intro c; simp [rkFrom]
  | cons m b ih =>
    intro c
    rw [List.cons_append, rkFrom, rkFrom, ih (a ++ [m]) c, List.append_assoc, List.singleton_append]
    omega
theorem rk_snoc_in {ms : List Nat} {m : Nat} (h : Span ms m) : rk (ms ++ [m]) = rk ms := by
  unfold rk
  rw [rkFrom_app, List.nil_append, rkFrom, if_pos h, rkFrom]
  rfl
theorem rk_snoc_out {ms : List Nat} {m : Nat} (h : ¬ Span ms m) : rk (ms ++ [m]) = rk ms + 1 := by
  unfold rk
  rw [rkFrom_app, List.nil_append, rkFrom, if_neg h, rkFrom]
/-- S lists what the masks make, each once -/
def Lists (ms S : List Nat) : Prop := S.Nodup ∧ ∀ x, x ∈ S ↔ Span ms x
theorem Lists.nil : Lists [] [0] := ⟨by simp, fun x => by
  rw [List.mem_singleton]
  constructor
  · rintro rfl; exact .nil
  · intro h; cases h; rfl⟩
theorem Lists.same {ms S : List Nat} {m : Nat} (h : Lists ms S) (hm : Span ms m) : Lists (ms ++ [m]) S := ⟨h.1, fun x => by
  rw [h.2, Span.snoc]
  constructor
  · exact .inl
  · rintro (q | q)
    · exact q
    · have := q.xor hm
      rwa [Nat.xor_assoc, Nat.xor_self, Nat.xor_zero] at this⟩
theorem Lists.double {ms S : List Nat} {m : Nat} (h : Lists ms S) (hm : ¬ Span ms m) : Lists (ms ++ [m]) (S ++ S.map (· ^^^ m)) := by
  refine ⟨List.nodup_append.mpr ⟨h.1, ?_, fun a ha b hb e => ?_⟩, fun x => ?_⟩
  · refine List.Pairwise.map _ (fun a b hab e => hab ?_) h.1
    have := congrArg (· ^^^ m) e
    simp only [Nat.xor_assoc, Nat.xor_self, Nat.xor_zero] at this
    exact this
  · subst e
    obtain ⟨c, hc, rfl⟩ := List.mem_map.mp hb
    have q1 := (h.2 _).mp ha
    have q2 := (h.2 _).mp hc
    have := q2.xor q1
    rw [← Nat.xor_assoc, Nat.xor_self, Nat.zero_xor] at this
    exact hm this
  · rw [List.mem_append, List.mem_map, Span.snoc, h.2]
    constructor
    · rintro (q | ⟨c, hc, rfl⟩)
      · exact .inl q
      · refine .inr ?_
        rw [Nat.xor_assoc, Nat.xor_self, Nat.xor_zero]
        exact (h.2 _).mp hc
    · rintro (q | q)
      · exact .inl q
      · exact .inr ⟨_, (h.2 _).mpr q, by rw [Nat.xor_assoc, Nat.xor_self, Nat.xor_zero]⟩
theorem lists_ex (ms : List Nat) : ∃ S, Lists ms S ∧ S.length = 2 ^ rk ms := by
  have key : ∀ (n : Nat) (ms : List Nat), ms.length = n → ∃ S, Lists ms S ∧ S.length = 2 ^ rk ms := by
    intro n
    induction n with
    | zero =>
      intro ms h
      have : ms = [] := List.eq_nil_of_length_eq_zero h
      subst this
      exact ⟨[0], .nil, rfl⟩
    | succ n ih =>
      intro ms h
      have hne : ms ≠ [] := fun e => by rw [e] at h; cases h
      have e : ms = ms.dropLast ++ [ms.getLast hne] := (List.dropLast_concat_getLast hne).symm
      rw [e]
      obtain ⟨S, h1, h2⟩ := ih ms.dropLast (by rw [List.length_dropLast, h]; rfl)
      by_cases hs : Span ms.dropLast (ms.getLast hne)
      · exact ⟨S, h1.same hs, by rw [rk_snoc_in hs]; exact h2⟩
      · exact ⟨_, h1.double hs, by rw [rk_snoc_out hs, List.length_append, List.length_map, h2, Nat.pow_succ]; omega⟩
  exact key _ ms rfl
theorem Lists.length {ms S : List Nat} (h : Lists ms S) : S.length = 2 ^ rk ms := by
  obtain ⟨T, h1, h2⟩ := lists_ex ms
  rw [← h2]
  refine List.Perm.length_eq ((List.perm_ext_iff_of_nodup h.1 h1.1).mpr fun x => ?_)
  rw [h.2, h1.2]
/-- (t, x): x has the bit t; those behind have it not -/
def Ech : List (Nat × Nat) → Prop
  | [] => True
  | p :: r => p.2.testBit p.1 = true ∧ (∀ q ∈ r, q.2.testBit p.1 = false) ∧ Ech r
theorem Ech.span_bit : ∀ {L : List (Nat × Nat)} {t : Nat}, (∀ q ∈ L, q.2.testBit t = false) → ∀ {x : Nat}, Span (L.map (·.2)) x → x.testBit t = false
  | [], t, _, x, h => by cases h; exact Nat.zero_testBit t
  | p :: r, t, q, x, h => by
    have q' := fun k hk => q k (List.mem_cons_of_mem _ hk)
    cases h with
    | out h => exact Ech.span_bit q' h
    | inn h => rw [Nat.testBit_xor, q p List.mem_cons_self, Ech.span_bit q' h]; rfl
/-- what has none of the bits and can be made is 0 -/
theorem Ech.zero : ∀ {L : List (Nat × Nat)} {x : Nat}, Ech L → (∀ p ∈ L, x.testBit p.1 = false) → Span (L.map (·.2)) x → x = 0
  | [], x, _, _, h => by cases h; rfl
  | p :: r, x, e, q, h => by
    obtain ⟨e1, e2, e3⟩ := e
    have hp := q p List.mem_cons_self
    cases h with
    | out h => exact Ech.zero e3 (fun k hk => q k (List.mem_cons_of_mem _ hk)) h
    | inn h =>
      rw [Nat.testBit_xor, e1, Ech.span_bit e2 h] at hp
      cases hp
theorem Ech.snoc : ∀ {L : List (Nat × Nat)} {t x : Nat}, Ech L → (∀ p ∈ L, x.testBit p.1 = false) → x.testBit t = true → Ech (L ++ [(t, x)])
  | [], t, x, _, _, h => ⟨h, by simp, trivial⟩
  | p :: r, t, x, e, q, h => by
    obtain ⟨e1, e2, e3⟩ := e
    refine ⟨e1, fun k hk => ?_, Ech.snoc e3 (fun k hk => q k (List.mem_cons_of_mem _ hk)) h⟩
    rcases List.mem_append.mp hk with hk | hk
    · exact e2 k hk
    · rw [List.mem_singleton.mp hk]; exact q p List.mem_cons_self
/-- L makes the same as ms, and has as many as the rank -/
structure Basis (L : List (Nat × Nat)) (ms : List Nat) : Prop where
  ech : Ech L
  span : ∀ x, Span (L.map (·.2)) x ↔ Span ms x
  len : L.length = rk ms
theorem Basis.nil : Basis [] [] := ⟨trivial, fun _ => Iff.rfl, rfl⟩
/-- a mask that is made of others, what is left of it: nothing -/
theorem Basis.same {L : List (Nat × Nat)} {ms : List Nat} {m : Nat} (h : Basis L ms) (hs : Span (L.map (·.2)) m) : Basis L (ms ++ [m]) :=
  have hm := (h.span m).mp hs
  ⟨h.ech, fun x => by
    rw [h.span, Span.snoc]
    constructor
    · exact .inl
    · rintro (q | q)
      · exact q
      · have := q.xor hm
        rwa [Nat.xor_assoc, Nat.xor_self, Nat.xor_zero] at this, by rw [rk_snoc_in hm]; exact h.len⟩
theorem Basis.more {L : List (Nat × Nat)} {ms : List Nat} {m t x : Nat} (h : Basis L ms) (hz : ∀ p ∈ L, x.testBit p.1 = false) (ht : x.testBit t = true) (hs : Span (L.map (·.2)) (m ^^^ x)) : Basis (L ++ [(t, x)]) (ms ++ [m]) := by
  have h0 : x ≠ 0 := fun e => by rw [e, Nat.zero_testBit] at ht; cases ht
  have no : ¬ Span ms m := fun q => by
    have := ((h.span m).mpr q).xor hs
    rw [xor_x] at this
    exact h0 (h.ech.zero hz this)
  refine ⟨h.ech.snoc hz ht, fun y => ?_, by rw [rk_snoc_out no, List.length_append, h.len]; rfl⟩
  rw [List.map_append, List.map_singleton, Span.snoc, Span.snoc, h.span, h.span]
  have hmx := (h.span _).mp hs
  constructor
  · rintro (q | q)
    · exact .inl q
    · refine .inr ?_
      have := q.xor hmx
      have e : y ^^^ x ^^^ (m ^^^ x) = y ^^^ m := by rw [Nat.xor_assoc, xor_l x m x, Nat.xor_self, Nat.xor_zero]
      rwa [e] at this
  · rintro (q | q)
    · exact .inl q
    · refine .inr ?_
      have := q.xor hmx
      have e : y ^^^ m ^^^ (m ^^^ x) = y ^^^ x := by rw [Nat.xor_assoc, xor_x]
      rwa [e] at this
end Gf
namespace DN
open L2 (kitB atI ixN Key)
open PySem (PyData Str)
abbrev iN (m : Nat) : D := D.int (m : Int)
/-- a bound -/
def nI (n : Nat) : Int := n
@[simp] theorem kit_int_int : kitB "int" "int" = some true := by decide +kernel
@[simp] theorem kit_int_bool : kitB "int" "bool" = some false := by decide +kernel
@[simp] theorem kit_bool_int : kitB "bool" "int" = some true := by decide +kernel
@[simp] theorem kit_bool_bool : kitB "bool" "bool" = some true := by decide +kernel
@[simp] theorem kit_int_list : kitB "int" "list" = some false := by decide +kernel
@[simp] theorem kit_list_list : kitB "list" "list" = some true := by decide +kernel
@[simp] theorem kit_tuple_tuple : kitB "tuple" "tuple" = some true := by decide +kernel
@[simp] theorem kit_list_tuple : kitB "list" "tuple" = some false := by decide +kernel
@[simp] theorem kit_tuple_list : kitB "tuple" "list" = some false := by decide +kernel
@[simp] theorem kit_int_tuple : kitB "int" "tuple" = some false := by decide +kernel
@[simp] theorem kit_none_int : kitB "NoneType" "int" = some false := by decide +kernel
@[simp] theorem kit_none_list : kitB "NoneType" "list" = some false := by decide +kernel
@[simp] theorem kit_none_tuple : kitB "NoneType" "tuple" = some false := by decide +kernel
@[simp] theorem kit_list_int : kitB "list" "int" = some false := by decide +kernel
@[simp] theorem kit_tuple_int : kitB "tuple" "int" = some false := by decide +kernel
@[simp] theorem kit_str_int : kitB "str" "int" = some false := by decide +kernel
@[simp] theorem kit_str_list : kitB "str" "list" = some false := by decide +kernel
@[simp] theorem kit_str_tuple : kitB "str" "tuple" = some false := by decide +kernel
@[simp] theorem kit_str_str : kitB "str" "str" = some true := by decide +kernel
@[simp] theorem kit_dict_int : kitB "dict" "int" = some false := by decide +kernel
@[simp] theorem kit_dict_list : kitB "dict" "list" = some false := by decide +kernel
@[simp] theorem kit_dict_tuple : kitB "dict" "tuple" = some false := by decide +kernel
@[simp] theorem kit_bool_list : kitB "bool" "list" = some false := by decide +kernel
@[simp] theorem kit_bool_tuple : kitB "bool" "tuple" = some false := by decide +kernel
@[simp] theorem kit_int_str : kitB "int" "str" = some false := by decide +kernel
@[simp] theorem kit_list_str : kitB "list" "str" = some false := by decide +kernel
@[simp] theorem kit_tuple_str : kitB "tuple" "str" = some false := by decide +kernel
theorem half_ind {P : Nat → Prop} (h0 : P 0) (h : ∀ n, 0 < n → P (n / 2) → P n) : ∀ n, P n := fun n => by
  induction n using Nat.strongRecOn with
  | ind n ih =>
    by_cases e : n = 0
    · subst e; exact h0
    · exact h n (by omega) (ih _ (by omega))
theorem mod2_and (a b : Nat) : ((a &&& b) % 2 = 1) ↔ (a % 2 = 1 ∧ b % 2 = 1) := by
  have := Nat.testBit_and a b 0
  rw [Nat.testBit_zero, Nat.testBit_zero, Nat.testBit_zero, ← Bool.decide_and, decide_eq_decide] at this
  exact this
theorem mod2_or (a b : Nat) : ((a ||| b) % 2 = 1) ↔ (a % 2 = 1 ∨ b % 2 = 1) := by
  have := Nat.testBit_or a b 0
  rw [Nat.testBit_zero, Nat.testBit_zero, Nat.testBit_zero, ← Bool.decide_or, decide_eq_decide] at this
  exact this
theorem mod2_xor (a b : Nat) : (a ^^^ b) % 2 = (a % 2 + b % 2) % 2 := by
  have h1 := Nat.mod_two_eq_zero_or_one a
  have h2 := Nat.mod_two_eq_zero_or_one b
  have h3 : (a ^^^ b).testBit 0 = (a.testBit 0 ^^ b.testBit 0) := Nat.testBit_xor a b 0
  simp only [Nat.testBit_zero] at h3
  have h4 := Nat.mod_two_eq_zero_or_one (a ^^^ b)
  rcases h1 with h1 | h1 <;> rcases h2 with h2 | h2 <;> rcases h4 with h4 | h4 <;> simp_all
theorem xor_add (a : Nat) : ∀ b : Nat, (a ^^^ b) + 2 * (a &&& b) = a + b := by
  induction a using half_ind with
  | h0 => intro b; simp
  | h a _ ih =>
    intro b
    have e1 : (a ^^^ b) / 2 = a / 2 ^^^ b / 2 := Nat.xor_div_two
    have e2 : (a &&& b) / 2 = a / 2 &&& b / 2 := Nat.and_div_two
    have e3 := mod2_xor a b
    have e4 := mod2_and a b
    have q := ih (b / 2)
    have h1 := Nat.mod_two_eq_zero_or_one a
    have h2 := Nat.mod_two_eq_zero_or_one b
    omega
theorem or_add (a : Nat) : ∀ b : Nat, (a ||| b) = (a ^^^ b) + (a &&& b) := by
  induction a using half_ind with
  | h0 => intro b; simp
  | h a _ ih =>
    intro b
    have e1 : (a ^^^ b) / 2 = a / 2 ^^^ b / 2 := Nat.xor_div_two
    have e2 : (a &&& b) / 2 = a / 2 &&& b / 2 := Nat.and_div_two
    have e3 : (a ||| b) / 2 = a / 2 ||| b / 2 := Nat.or_div_two
    have q := ih (b / 2)
    have h1 := Nat.mod_two_eq_zero_or_one a
    have h2 := Nat.mod_two_eq_zero_or_one b
    have t2 := mod2_and a b
    have t3 := mod2_or a b
    have t1 := xor_add a b
    have k : (a ||| b) % 2 = (a ^^^ b) % 2 + (a &&& b) % 2 := by omega
    omega
theorem band_nat (a b : Nat) : PySem.Builtin.bitAnd (a : Int) (b : Int) = ((a &&& b : Nat) : Int) := by
  rw [PyProof.Rows.bitAnd_pp (Int.natCast_nonneg _) (Int.natCast_nonneg _)]
  rfl
theorem bxN (a b : Nat) : bxor (a : Int) (b : Int) = ((a ^^^ b : Nat) : Int) := by
  unfold bxor
  rw [PyProof.Rows.bitXor_and, band_nat]
  have := xor_add a b
  omega
theorem baN (a b : Nat) : band (a : Int) (b : Int) = ((a &&& b : Nat) : Int) := band_nat a b
theorem boN (a b : Nat) : bor (a : Int) (b : Int) = ((a ||| b : Nat) : Int) := by
  unfold bor
  rw [PyProof.Rows.bitOr_and, band_nat]
  have h1 := xor_add a b
  have h2 := or_add a b
  omega
/-- the bits of a that b has not -/
def andN (a b : Nat) : Nat := a ^^^ (a &&& b)
theorem andN_add (a b : Nat) : andN a b + (a &&& b) = a := by
  have h := xor_add a (a &&& b)
  have e : a &&& (a &&& b) = a &&& b := by rw [← Nat.and_assoc, Nat.and_self]
  rw [e] at h
  unfold andN
  omega
theorem banN (a b : Nat) : band (a : Int) (bnot (b : Int)) = ((andN a b : Nat) : Int) := by
  unfold band bnot
  have hb : PySem.Builtin.bitNot (b : Int) = -((b : Int)) - 1 := rfl
  rw [PyProof.Rows.bitAnd_pn (by omega) (by rw [hb]; omega)]
  have e : (PySem.Builtin.bitNot (PySem.Builtin.bitNot (b : Int))).toNat = b := by
    rw [hb]
    show (-(-((b : Int)) - 1) - 1).toNat = b
    omega
  rw [e, Int.toNat_natCast]
  have := andN_add a b
  omega
theorem low_bit (n : Nat) : 0 < n → ∃ t, n.testBit t = true ∧ (∀ j, j < t → n.testBit j = false) ∧ (n &&& (n - 1)) + 2 ^ t = n := by
  induction n using half_ind with
  | h0 => intro h; omega
  | h n _ ih =>
    intro hn
    have t2 := mod2_and n (n - 1)
    have e1 : (n &&& (n - 1)) / 2 = n / 2 &&& (n - 1) / 2 := Nat.and_div_two
    rcases Nat.mod_two_eq_zero_or_one n with h | h
    · obtain ⟨t, h1, h2, h3⟩ := ih (by omega)
      refine ⟨t + 1, by rw [Nat.testBit_succ]; exact h1, fun j hj => ?_, ?_⟩
      · cases j with
        | zero => rw [Nat.testBit_zero]; simp [h]
        | succ j => rw [Nat.testBit_succ]; exact h2 j (by omega)
      · have e2 : (n - 1) / 2 = n / 2 - 1 := by omega
        rw [e2] at e1
        rw [Nat.pow_succ]
        omega
    · refine ⟨0, by rw [Nat.testBit_zero]; simp [h], fun j hj => absurd hj (Nat.not_lt_zero j), ?_⟩
      have e2 : (n - 1) / 2 = n / 2 := by omega
      rw [e2, Nat.and_self] at e1
      omega
/-- the place of the lowest bit -/
def lsb (n : Nat) : Nat := (n - (n &&& (n - 1))).log2
theorem lsb_eq {n t : Nat} (h1 : n.testBit t = true) (h2 : ∀ j, j < t → n.testBit j = false) : lsb n = t := by
  have hn : 0 < n := Nat.pos_of_ne_zero fun e => by rw [e, Nat.zero_testBit] at h1; cases h1
  obtain ⟨s, k1, k2, k3⟩ := low_bit n hn
  have e : s = t := by
    rcases Nat.lt_trichotomy s t with q | q | q
    · rw [h2 s q] at k1; cases k1
    · exact q
    · rw [k2 t q] at h1; cases h1
  subst e
  unfold lsb
  have e2 : n - (n &&& (n - 1)) = 2 ^ s := by
    generalize 2 ^ s = y at *
    omega
  rw [e2, Nat.log2_two_pow]
theorem lsb_spec {n : Nat} (hn : 0 < n) : n.testBit (lsb n) = true ∧ (∀ j, j < lsb n → n.testBit j = false) ∧ (n &&& (n - 1)) + 2 ^ lsb n = n := by
  obtain ⟨t, h1, h2, h3⟩ := low_bit n hn
  rw [lsb_eq h1 h2]
  exact ⟨h1, h2, h3⟩
theorem lsb_lt {n b : Nat} (hn : 0 < n) (hb : n < 2 ^ b) : lsb n < b := by
  rcases Nat.lt_or_ge (lsb n) b with q | q
  · exact q
  · have := (lsb_spec hn).1
    rw [Nat.testBit_lt_two_pow (Nat.lt_of_lt_of_le hb (Nat.pow_le_pow_right (by decide) q))] at this
    cases this
theorem bandNeg {n : Nat} (hn : 0 < n) : band (n : Int) (-(n : Int)) = ((2 ^ lsb n : Nat) : Int) := by
  obtain ⟨h1, h2, h3⟩ := lsb_spec hn
  unfold band
  rw [PyProof.Rows.bitAnd_pn (by omega) (by omega)]
  have e : (PySem.Builtin.bitNot (-(n : Int))).toNat = n - 1 := by
    unfold PySem.Builtin.bitNot
    show (-(-(n : Int)) - 1).toNat = n - 1
    omega
  rw [e, Int.toNat_natCast]
  omega
/-- bit_length -/
def blen (n : Nat) : Nat := if n = 0 then 0 else n.log2 + 1
theorem ibitsN (n : Nat) : ibits (n : Int) = blen n := by
  unfold ibits PySem.Builtin.Int.intBits blen
  by_cases h : n = 0
  · subst h; rfl
  · have h' : ((n : Int) == 0) = false := by
      rw [beq_eq_false_iff_ne]
      omega
    rw [h', Int.natAbs_natCast, if_neg h]
    rfl
theorem blen_le {n k : Nat} (h : n < 2 ^ k) : blen n ≤ k := by
  unfold blen
  by_cases h0 : n = 0
  · rw [if_pos h0]; omega
  · rw [if_neg h0]
    exact (Nat.log2_lt h0).mpr h
@[simp] theorem blen_pow (t : Nat) : blen (2 ^ t) = t + 1 := by
  unfold blen
  rw [if_neg (Nat.ne_of_gt (Nat.two_pow_pos t)), Nat.log2_two_pow]
theorem okMulN {a b : Nat} (h : a < 2 ^ 64 ∨ b < 2 ^ 64) : okMul (a : Int) (b : Int) = true := by
  unfold okMul
  rw [ibitsN, ibitsN, Bool.or_eq_true, Bool.or_eq_true]
  rcases h with h | h
  · exact .inl (Nat.ble_eq_true_of_le (blen_le h))
  · exact .inr (.inl (Nat.ble_eq_true_of_le (blen_le h)))
theorem okPowN {a b k : Nat} (h : a < 2 ^ k) (h2 : k * b ≤ 134217728) : okPow (a : Int) (b : Int) = true := by
  unfold okPow
  rw [ibitsN, Bool.and_eq_true, Int.toNat_natCast]
  refine ⟨decide_eq_true (Int.natCast_nonneg b), Nat.ble_eq_true_of_le ?_⟩
  have := Nat.mul_le_mul_right b (blen_le h)
  omega
theorem okShlN {a b k : Nat} (h : a < 2 ^ k) (h2 : k + b ≤ 134217728) : okShl (a : Int) (b : Int) = true := by
  unfold okShl
  rw [ibitsN, Bool.and_eq_true, Int.toNat_natCast]
  refine ⟨decide_eq_true (Int.natCast_nonneg b), Nat.ble_eq_true_of_le ?_⟩
  have := blen_le h
  omega
theorem okDivN {b : Nat} (h0 : 0 < b) (h1 : b < 2 ^ 300) : okDiv (b : Int) = true := by
  unfold okDiv
  rw [Bool.and_eq_true]
  refine ⟨decide_eq_true (by omega), Nat.ble_eq_true_of_le (m := 9000) ?_⟩
  rw [Int.natAbs_natCast]
  have := (Nat.log2_lt (Nat.ne_of_gt h0)).mpr h1
  omega
theorem shlIN (a k : Nat) : shlI (a : Int) (k : Int) = ((a * 2 ^ k : Nat) : Int) := by
  unfold shlI
  rw [Int.toNat_natCast]
  rfl
theorem shrIN (a k : Nat) : shrI (a : Int) (k : Int) = ((a >>> k : Nat) : Int) := by
  unfold shrI
  rw [Int.toNat_natCast, Nat.shiftRight_eq_div_pow]
  rfl
theorem iI_ok {c : Int → Int → Bool} {f : Int → Int → Int} {i j : Int} (h : c i j = true) : iI c f (.int i) (.int j) = some (.fz (.int (f i j))) := if_pos h
theorem orE_l {α : Type} {a b : D → D → Option α} {x y : D} {z : α} (h : a x y = some z) : orE a b x y = some z := by
  unfold orE
  rw [h]
theorem orE_r {α : Type} {a b : D → D → Option α} {x y : D} (h : a x y = none) : orE a b x y = b x y := by
  unfold orE
  rw [h]
@[simp] theorem gAdd_N (a b : Nat) : gAdd (iN a) (iN b) = some (.fz (iN (a + b))) := nr rfl
@[simp] theorem gAddI_N (a b : Nat) : gAddI (iN a) (iN b) = some (.fz (iN (a + b))) := nr rfl
@[simp low] theorem gAdd_i (a b : Int) : gAdd (.int a) (.int b) = some (.fz (.int (a + b))) := nr rfl
@[simp low] theorem gAddI_i (a b : Int) : gAddI (.int a) (.int b) = some (.fz (.int (a + b))) := nr rfl
@[simp] theorem gAdd_lst {xs ys : List D} (h : xs.length + ys.length ≤ 100000) : gAdd (.lst xs) (.lst ys) = some (.own (.lst (xs ++ ys))) := by
  have e : lstAdd (.lst xs) (.lst ys) = some (.own (.lst (xs ++ ys))) := if_pos h
  unfold gAdd
  rw [orE_r (by rfl), orE_l e]
@[simp] theorem gSub_N {a b : Nat} (h : b ≤ a) : gSub (iN a) (iN b) = some (.fz (iN (a - b))) := by
  have e : ((a - b : Nat) : Int) = (a : Int) - b := Int.ofNat_sub h
  show some (R.fz (.int ((a : Int) - b))) = some (R.fz (.int ((a - b : Nat) : Int)))
  rw [e]
@[simp low] theorem gSub_i (a b : Int) : gSub (.int a) (.int b) = some (.fz (.int (a - b))) := nr rfl
theorem gMul_ok {i j : Int} (h : okMul i j = true) : gMul (.int i) (.int j) = some (.fz (.int (i * j))) := by
  unfold gMul
  exact orE_l (iI_ok h)
theorem gMulI_ok {i j : Int} (h : okMul i j = true) : gMulI (.int i) (.int j) = some (.fz (.int (i * j))) := by
  exact iI_ok h
@[simp] theorem gMul_l {a b : Nat} (h : a < 2 ^ 64) : gMul (iN a) (iN b) = some (.fz (iN (a * b))) := by rw [gMul_ok (okMulN (.inl h))]; rfl
@[simp] theorem gMul_r {a b : Nat} (h : b < 2 ^ 64) : gMul (iN a) (iN b) = some (.fz (iN (a * b))) := by rw [gMul_ok (okMulN (.inr h))]; rfl
@[simp] theorem gMulI_l {a b : Nat} (h : a < 2 ^ 64) : gMulI (iN a) (iN b) = some (.fz (iN (a * b))) := by rw [gMulI_ok (okMulN (.inl h))]; rfl
@[simp] theorem gMulI_r {a b : Nat} (h : b < 2 ^ 64) : gMulI (iN a) (iN b) = some (.fz (iN (a * b))) := by rw [gMulI_ok (okMulN (.inr h))]; rfl
@[simp] theorem gDiv_N {a b : Nat} (h0 : 0 < b) (h1 : b < 2 ^ 64) : gDiv (iN a) (iN b) = some (.fz (iN (a / b))) := (iI_ok (okDivN h0 (Nat.lt_trans h1 (by decide)))).trans rfl
@[simp] theorem gMod_N {a b : Nat} (h : 0 < b) : gMod (iN a) (iN b) = some (.fz (iN (a % b))) := by
  exact (iI_ok (c := fun _ j => decide (0 < j)) (decide_eq_true (by omega))).trans rfl
@[simp] theorem gPow_N {a b : Nat} (h : a < 2 ^ 64) (h2 : b ≤ 1000000) : gPow (iN a) (iN b) = some (.fz (iN (a ^ b))) := by
  refine (iI_ok (f := fun i j => i ^ j.toNat) (okPowN h (by omega))).trans ?_
  simp
@[simp] theorem gShl_1 {b : Nat} (h : b ≤ 100000) : gShl (iN 1) (iN b) = some (.fz (iN (2 ^ b))) := by
  refine (iI_ok (i := ((1 : Nat) : Int)) (okShlN (k := 1) (by decide) (by omega))).trans ?_
  rw [shlIN, Nat.one_mul]
theorem gShl_N {a b : Nat} (k : Nat) (h : a < 2 ^ k) (h2 : k + b ≤ 134217728) : gShl (iN a) (iN b) = some (.fz (iN (a * 2 ^ b))) := by
  refine (iI_ok (okShlN h h2)).trans ?_
  rw [shlIN]
@[simp] theorem gShl_s {a b : Nat} (h : a < 2 ^ 64) (h2 : b ≤ 100000) : gShl (iN a) (iN b) = some (.fz (iN (a * 2 ^ b))) := gShl_N 64 h (by omega)
@[simp] theorem gShr_N (a b : Nat) : gShr (iN a) (iN b) = some (.fz (iN (a >>> b))) := by
  refine (iI_ok (c := fun _ j => decide (0 ≤ j)) (decide_eq_true (Int.natCast_nonneg b))).trans ?_
  rw [shrIN]
@[simp] theorem gAnd_N (a b : Nat) : gAnd (iN a) (iN b) = some (.fz (iN (a &&& b))) := by
  show some (R.fz (.int (band _ _))) = _
  rw [baN]
theorem shr_and_one (a b : Nat) : (a >>> b) &&& 1 = (a.testBit b).toNat := by
  rw [Nat.and_one_is_mod, Nat.testBit_eq_decide_div_mod_eq, Nat.shiftRight_eq_div_pow]
  rcases Nat.mod_two_eq_zero_or_one (a / 2 ^ b) with h | h <;> simp [h]
@[simp high] theorem gAnd_bit (a b : Nat) : gAnd (iN (a >>> b)) (iN 1) = some (.fz (iN (a.testBit b).toNat)) := by rw [gAnd_N, shr_and_one]
@[simp] theorem gOr_N (a b : Nat) : gOr (iN a) (iN b) = some (.fz (iN (a ||| b))) := by
  show some (R.fz (.int (bor _ _))) = _
  rw [boN]
@[simp] theorem gXor_N (a b : Nat) : gXor (iN a) (iN b) = some (.fz (iN (a ^^^ b))) := by
  show some (R.fz (.int (bxor _ _))) = _
  rw [bxN]
/-- -n -/
def ngD (n : Nat) : D := .int (-(n : Int))
/-- ~n -/
def inD' (n : Nat) : D := .int (bnot (n : Int))
@[simp low] theorem gNeg_i (i : Int) : gNeg (.int i) = some (.fz (.int (-i))) := nr rfl
@[simp low] theorem gInv_i (i : Int) : gInv (.int i) = some (.fz (.int (bnot i))) := nr rfl
@[simp] theorem gNeg_N (n : Nat) : gNeg (iN n) = some (.fz (ngD n)) := nr rfl
@[simp] theorem gInv_N (n : Nat) : gInv (iN n) = some (.fz (inD' n)) := nr rfl
@[simp] theorem gAnd_inv (a b : Nat) : gAnd (iN a) (inD' b) = some (.fz (iN (andN a b))) := by
  show some (R.fz (.int (band _ _))) = _
  rw [banN]
@[simp] theorem gAnd_neg {a : Nat} (h : 0 < a) : gAnd (iN a) (ngD a) = some (.fz (iN (2 ^ lsb a))) := by
  show some (R.fz (.int (band _ _))) = _
  rw [bandNeg h]
@[simp] theorem gBits_N (a : Nat) : gBits (iN a) = some (.fz (iN (blen a))) := by
  show some (R.fz (.int (ibits _ : Nat))) = _
  rw [ibitsN]
@[simp] theorem gLt_N (a b : Nat) : gLt (iN a) (iN b) = some (.fz (.bl (decide (a < b)))) := by
  show some (R.fz (.bl (decide ((a : Int) < b)))) = _
  simp only [Int.ofNat_lt]
@[simp] theorem gLe_N (a b : Nat) : gLe (iN a) (iN b) = some (.fz (.bl (decide (a ≤ b)))) := by
  show some (R.fz (.bl (decide ((a : Int) ≤ b)))) = _
  simp only [Int.ofNat_le]
@[simp] theorem gGt_N (a b : Nat) : gGt (iN a) (iN b) = some (.fz (.bl (decide (b < a)))) := by
  show some (R.fz (.bl (decide ((b : Int) < a)))) = _
  simp only [Int.ofNat_lt]
@[simp] theorem gGe_N (a b : Nat) : gGe (iN a) (iN b) = some (.fz (.bl (decide (b ≤ a)))) := by
  show some (R.fz (.bl (decide ((b : Int) ≤ a)))) = _
  simp only [Int.ofNat_le]
@[simp low] theorem gLt_i (a b : Int) : gLt (.int a) (.int b) = some (.fz (.bl (decide (a < b)))) := nr rfl
@[simp low] theorem gLe_i (a b : Int) : gLe (.int a) (.int b) = some (.fz (.bl (decide (a ≤ b)))) := nr rfl
@[simp low] theorem gGt_i (a b : Int) : gGt (.int a) (.int b) = some (.fz (.bl (decide (b < a)))) := nr rfl
@[simp low] theorem gGe_i (a b : Int) : gGe (.int a) (.int b) = some (.fz (.bl (decide (b ≤ a)))) := nr rfl
theorem eqD_int (x y : Int) : eqD (.int x) (.int y) = some (decide (x = y)) := by
  have : (x == y) = decide (x = y) := by rw [Bool.eq_iff_iff]; simp
  rw [← this]
  rfl
theorem gEq2_of {x y : D} {b : Bool} (h : eqD x y = some b) (h2 : gEqS x y = none) : gEq2 x y = some (.fz (.bl b)) := by
  unfold gEq2
  rw [orE_r h2]
  unfold gEq
  rw [h, Option.map_some]
theorem gNe2_of {x y : D} {b : Bool} (h : eqD x y = some b) (h2 : gNeS x y = none) : gNe2 x y = some (.fz (.bl (!b))) := by
  unfold gNe2
  rw [orE_r h2]
  unfold gNe
  rw [h, Option.map_some]
@[simp low] theorem gEq2_i (a b : Int) : gEq2 (.int a) (.int b) = some (.fz (.bl (decide (a = b)))) := gEq2_of (eqD_int a b) rfl
@[simp low] theorem gNe2_i (a b : Int) : gNe2 (.int a) (.int b) = some (.fz (.bl (!decide (a = b)))) := gNe2_of (eqD_int a b) rfl
@[simp] theorem gEq2_N (a b : Nat) : gEq2 (iN a) (iN b) = some (.fz (.bl (decide (a = b)))) := by
  rw [gEq2_i]
  simp only [Int.ofNat_inj]
@[simp] theorem gNe2_N (a b : Nat) : gNe2 (iN a) (iN b) = some (.fz (.bl (!decide (a = b)))) := by
  rw [gNe2_i]
  simp only [Int.ofNat_inj]
@[simp] theorem gEq2_str (x y : Str) : gEq2 (.str x) (.str y) = some (.fz (.bl (decide (x = y)))) := nr rfl
@[simp] theorem gNe2_str (x y : Str) : gNe2 (.str x) (.str y) = some (.fz (.bl (!decide (x = y)))) := nr rfl
@[simp] theorem truD_N (a : Nat) : truD (iN a) = some (decide (a ≠ 0)) := by
  show some ((a : Int) != 0) = _
  rw [bne, Option.some.injEq, Bool.eq_iff_iff]
  simp
@[simp] theorem gIsB_b (x : D) (b : Bool) : gIsB x (.bl b) = some (.fz (.bl (isBD x b))) := nr rfl
@[simp] theorem gNotB_b (x : D) (b : Bool) : gNotB x (.bl b) = some (.fz (.bl (!isBD x b))) := nr rfl
@[simp] theorem isBD_bl (c b : Bool) : isBD (.bl c) b = (c == b) := nr rfl
@[simp] theorem isBD_non (b : Bool) : isBD .non b = false := nr rfl
@[simp] theorem isBD_int (i : Int) (b : Bool) : isBD (.int i) b = false := nr rfl
@[simp] theorem isBD_lst (i : List D) (b : Bool) : isBD (.lst i) b = false := nr rfl
@[simp] theorem isBD_tup (i : List D) (b : Bool) : isBD (.tup i) b = false := nr rfl
@[simp] theorem gInt_N (a : Nat) : gInt [iN a] = some (.fz (iN a)) := nr rfl
@[simp] theorem gInt_b (b : Bool) : gInt [.bl b] = some (.fz (iN b.toNat)) := by cases b <;> rfl
@[simp] theorem gMax_N (a b : Nat) : gMax [iN a, iN b] = some (.fz (iN (max a b))) := by
  show some (R.fz (.int (if (b : Int) > a then (b : Int) else a))) = _
  congr 3
  by_cases h : a < b
  · rw [if_pos (by omega), Nat.max_eq_right (by omega)]
  · rw [if_neg (by omega), Nat.max_eq_left (by omega)]
@[simp] theorem gMin_N (a b : Nat) : gMin [iN a, iN b] = some (.fz (iN (min a b))) := by
  show some (R.fz (.int (if (b : Int) < a then (b : Int) else a))) = _
  congr 3
  by_cases h : b < a
  · rw [if_pos (by omega), Nat.min_eq_right (by omega)]
  · rw [if_neg (by omega), Nat.min_eq_left (by omega)]
@[simp] theorem gLen_lst (ds : List D) : gLen [.lst ds] = some (.fz (iN ds.length)) := nr rfl
@[simp] theorem gLen_tup (ds : List D) : gLen [.tup ds] = some (.fz (iN ds.length)) := nr rfl
@[simp] theorem gLen_dct (ds : List (Key × D)) : gLen [.dct ds] = some (.fz (iN ds.length)) := nr rfl
theorem atI_nat {α : Type} (xs : List α) (r : Nat) : atI xs (r : Int) = xs[r]? := by
  unfold L2.atI L2.ixN
  rw [if_pos (Int.natCast_nonneg r)]
  by_cases h : r < xs.length
  · rw [if_pos (Int.ofNat_lt.mpr h)]
    simp
  · rw [if_neg (by omega)]
    rw [Option.bind_none, List.getElem?_eq_none (by omega)]
theorem atI_last {α : Type} (xs : List α) : atI xs (-1) = xs.getLast? := by
  unfold L2.atI L2.ixN
  rw [if_neg (by decide)]
  by_cases h : xs = []
  · subst h; rfl
  · have hp := List.length_pos_iff.mpr h
    rw [if_pos (by omega), Option.bind_some, List.getLast?_eq_getElem?]
    congr 1
    omega
@[simp] theorem gIx_lst (ds : List D) (i : Nat) : gIx (.lst ds) (iN i) = ds[i]?.map R.fz := by
  show (atI ds (i : Int)).map R.fz = _
  rw [atI_nat]
@[simp] theorem gIx_tup (ds : List D) (i : Nat) : gIx (.tup ds) (iN i) = ds[i]?.map R.fz := by
  show (atI ds (i : Int)).map R.fz = _
  rw [atI_nat]
@[simp] theorem gIx_last (ds : List D) : gIx (.lst ds) (ngD 1) = ds.getLast?.map R.fz := by
  show (atI ds (-1)).map R.fz = _
  rw [atI_last]
@[simp] theorem keyD_N (i : Nat) : keyD (iN i) = some (.inl (i : Int)) := nr rfl
@[simp] theorem gIx_dct (kvs : List (Key × D)) (i : Nat) : gIx (.dct kvs) (iN i) = (valD kvs (.inl (i : Int))).map R.fz := nr rfl
@[simp] theorem goIx_lst (ds : List D) (i : Nat) : goIx (.lst ds) (iN i) = ds[i]? := by
  show atI ds (i : Int) = _
  rw [atI_nat]
@[simp] theorem goIx_dct (kvs : List (Key × D)) (i : Nat) : goIx (.dct kvs) (iN i) = valD kvs (.inl (i : Int)) := nr rfl
@[simp] theorem gPut_lst {ds : List D} {i : Nat} {d : D} (h : i < ds.length) : gPut (.lst ds) (iN i) d = some (.lst (ds.set i d)) := by
  show (ixN ds.length (i : Int)).map _ = _
  unfold L2.ixN
  rw [if_pos (Int.natCast_nonneg i), if_pos (Int.ofNat_lt.mpr h), Option.map_some, Int.toNat_natCast]
@[simp] theorem gPut_dct {kvs : List (Key × D)} {i : Nat} {d : D} (h : kvs.length ≤ 100000) : gPut (.dct kvs) (iN i) d = some (.dct (putD kvs (.inl (i : Int)) d)) := by
  show (if kvs.length ≤ 100000 then _ else _) = _
  rw [if_pos h]
@[simp] theorem gIn_dct (kvs : List (Key × D)) (i : Nat) : gIn (iN i) (.dct kvs) = some (.fz (.bl (valD kvs (.inl (i : Int))).isSome)) := nr rfl
@[simp] theorem gNotIn_dct (kvs : List (Key × D)) (i : Nat) : gNotIn (iN i) (.dct kvs) = some (.fz (.bl (!(valD kvs (.inl (i : Int))).isSome))) := nr rfl
@[simp] theorem gAppend_N {xs : List D} {y : D} (h : xs.length ≤ 100000) : gAppend (.lst xs) [y] = some (.lst (xs ++ [y]), .non) := by
  unfold gAppend
  exact if_pos h
@[simp] theorem gExtend_N {xs ys : List D} (h : xs.length + ys.length ≤ 100000) : gExtend (.lst xs) [.lst ys] = some (.lst (xs ++ ys), .non) := by
  unfold gExtend
  exact if_pos h
@[simp] theorem gPop0_N (xs : List D) : gPop0 (.lst xs) [] = xs.getLast?.map fun y => (.lst xs.dropLast, y) := by
  show (xs[xs.length - 1]?).map _ = _
  rw [List.getLast?_eq_getElem?]
theorem seqIx_N {n i : Nat} (h : i < n) : PySem.seqIndex? (i : Int) n = some i := by
  unfold PySem.seqIndex?
  have e : ¬ ((i : Int) < 0) := by omega
  simp [h, e]
theorem pop_bd {i : Nat} (h : i < 1000000) : decide (-(2 ^ 63) ≤ (i : Int) ∧ (i : Int) < 2 ^ 63) = true := decide_eq_true (by omega)
@[simp] theorem gPop1_N {xs : List D} {i : Nat} (h : i < xs.length) (h2 : i < 1000000) : gPop1 (.lst xs) [iN i] = some (.lst (xs.eraseIdx i), xs[i]) := by
  refine (gPop1.eq_1 xs (i : Int)).trans ((if_pos (pop_bd h2)).trans ?_)
  rw [seqIx_N h, Option.bind_some, List.getElem?_eq_getElem h, Option.map_some]
@[simp] theorem gList_lst (ds : List D) : gList [.lst ds] = some (.own (.lst ds)) := nr rfl
@[simp] theorem gList_tup (ds : List D) : gList [.tup ds] = some (.own (.lst ds)) := nr rfl
@[simp] theorem gList_dct (kvs : List (Key × D)) : gList [.dct kvs] = some (.own (.lst (kvs.map fun kv => keyV kv.1))) := nr rfl
@[simp] theorem gTuple_lst (ds : List D) : gTuple [.lst ds] = some (.own (.tup ds)) := nr rfl
@[simp high] theorem finPart_N (ρ : Env) (n : Nat) : finPart ρ (some (iN n)) = .ok ρ (some (nI n)) := nr rfl
@[simp] theorem gSl_drop (ds : List D) (a : Nat) : gSl (.lst ds) (some (nI a)) none = some (.own (.lst (ds.drop a))) := by
  show some (R.own (.lst (cutL ds _ _))) = _
  unfold cutL nI
  rw [HT.sIx_nat, HT.sIx_none]
  congr 3
  rcases Nat.le_total a ds.length with h | h
  · rw [Nat.min_eq_left h]
    exact List.take_of_length_le (by rw [List.length_drop]; omega)
  · rw [Nat.min_eq_right h, Nat.sub_self, List.take_zero, List.drop_of_length_le h]
@[simp] theorem gSl_take (ds : List D) (b : Nat) : gSl (.lst ds) none (some (nI b)) = some (.own (.lst (ds.take b))) := by
  show some (R.own (.lst (cutL ds _ _))) = _
  unfold cutL nI
  rw [HT.sIx_nat, HT.sIx_none, List.drop_zero, Nat.sub_zero]
  congr 3
  rcases Nat.le_total b ds.length with h | h
  · rw [Nat.min_eq_left h]
  · rw [Nat.min_eq_right h, List.take_of_length_le (Nat.le_refl _), List.take_of_length_le h]
@[simp] theorem gSl_all (ds : List D) : gSl (.lst ds) none none = some (.own (.lst ds)) := by
  show some (R.own (.lst (cutL ds _ _))) = _
  unfold cutL
  rw [HT.sIx_none, HT.sIx_none, List.drop_zero, Nat.sub_zero, List.take_length]
theorem intsD_N (xs : List Nat) : intsD (xs.map iN) = some (xs.map fun x : Nat => (x : Int)) := by
  induction xs with
  | nil => rfl
  | cons x xs ih => rw [List.map_cons, intsD, ih]; rfl
theorem sum_N (xs : List Nat) : (xs.map fun x : Nat => (x : Int)).sum = ((xs.sum : Nat) : Int) := by
  induction xs with
  | nil => rfl
  | cons x xs ih => rw [List.map_cons, List.sum_cons, List.sum_cons, ih, Int.natCast_add]
@[simp] theorem gSum_N (xs : List Nat) : gSum [.lst (xs.map iN)] = some (.fz (iN xs.sum)) := by
  show (intsD _).map _ = _
  rw [intsD_N, Option.map_some, sum_N]
theorem blsD_N (xs : List Bool) : blsD (xs.map D.bl) = some xs := by
  induction xs with
  | nil => rfl
  | cons x xs ih => rw [List.map_cons, blsD, ih]; rfl
@[simp] theorem gAll_N (xs : List Bool) : gAll [.lst (xs.map D.bl)] = some (.fz (.bl (xs.all id))) := by
  show (blsD _).map _ = _
  rw [blsD_N, Option.map_some]
@[simp] theorem gAny_N (xs : List Bool) : gAny [.lst (xs.map D.bl)] = some (.fz (.bl (xs.any id))) := by
  show (blsD _).map _ = _
  rw [blsD_N, Option.map_some]
theorem okR_N {n : Nat} (h : n ≤ 1000000) : okR (n : Int) = true := decide_eq_true (by omega)
@[simp] theorem rng1_N {n : Nat} (h : n ≤ 1000000) : rng1 [iN n] = some (0, 1, n) := (rng1.eq_1 _).trans ((if_pos (okR_N h)).trans (by rw [Int.toNat_natCast]))
theorem and_t {a b : Bool} (h : a = true) (h2 : b = true) : (a && b) = true := by rw [h, h2]; rfl
@[simp] theorem rng2_N {a b : Nat} (h : a ≤ 1000000) (h2 : b ≤ 1000000) : rng2 [iN a, iN b] = some (nI a, 1, b - a) :=
  (rng2.eq_1 _ _).trans ((if_pos (and_t (okR_N h) (okR_N h2))).trans (by unfold nI; rw [show ((b : Int) - a).toNat = b - a by omega]))
theorem okR_neg : okR (-1) = true := decide_eq_true (by omega)
@[simp] theorem rng3_N {a : Nat} (h : a ≤ 900000) : rng3 [iN a, ngD 1, ngD 1] = some (nI a, -1, a + 1) :=
  (rng3.eq_1 _ _ _).trans ((if_pos (and_t (and_t (okR_N (by omega)) okR_neg) (decide_eq_true rfl))).trans (by unfold nI; rw [show ((a : Int) - -((1 : Nat) : Int)).toNat = a + 1 by omega]))
theorem rngItems_up0 (n : Nat) : rngItems 0 1 n = (List.range n).map fun i => R.fz (iN i) := by
  unfold rngItems
  refine List.map_congr_left fun i _ => ?_
  rw [show (0 : Int) + (i : Int) * 1 = (i : Int) by omega]
theorem rngItems_up (a n : Nat) : rngItems (a : Int) 1 n = (List.range' a n).map fun i => R.fz (iN i) := by
  unfold rngItems
  rw [List.range'_eq_map_range, List.map_map]
  refine List.map_congr_left fun i _ => ?_
  rw [show (a : Int) + (i : Int) * 1 = ((a + i : Nat) : Int) by omega]
  rfl
theorem rngItems_down (a : Nat) : rngItems (a : Int) (-1) (a + 1) = (List.range (a + 1)).reverse.map fun i => R.fz (iN i) := by
  unfold rngItems
  apply List.ext_getElem
  · simp
  · intro i h1 h2
    simp at h1
    simp
    omega
/-- list(range(..)) -/
@[simp] theorem dRg1_N {f : Env → O R} {ρ ρ' : Env} {r : R} {n : Nat} (h : dN f ρ = .ok ρ' r) (h2 : useR ρ' r = some (iN n)) : dRg1 f ρ = .ok ρ' (0, (n : Int)) := by
  unfold dRg1
  rw [h]
  simp only [O.bind_ok, h2]
theorem rgD_N (n : Nat) : rgD 0 (n : Int) = (List.range n).map iN := by
  unfold rgD
  rw [Int.sub_zero, Int.toNat_natCast]
  refine List.map_congr_left fun k _ => ?_
  rw [Int.zero_add]
theorem rgOk0 {n : Nat} (h : n ≤ 1000000) : rgOk 0 (n : Int) = true := decide_eq_true (by omega)
end DN
namespace DN
open L2 (kitB atI ixN Key)
open PySem (PyData Str)
theorem mapIdx_c {α β : Type} (f : α → β) (xs : List α) : (xs.mapIdx fun _ x => f x) = xs.map f := by
  apply List.ext_getElem <;> simp
theorem mapIdx_m {α β γ : Type} (f : α → β) (g : Nat → β → γ) (xs : List α) : (xs.map f).mapIdx g = xs.mapIdx fun i x => g i (f x) := by
  apply List.ext_getElem <;> simp
/-- how a pass of a loop's body goes on: behind it P, with a return Q, with a break B -/
def GoesX (P : Env → Prop) (Q : Env → R → Prop) (B : Env → Prop) : O Fl → Prop
  | .ok ρ .nx => P ρ
  | .ok ρ .ct => P ρ
  | .ok ρ .bk => B ρ
  | .ok ρ (.rt r) => Q ρ r
  | _ => False
@[simp] theorem goesX_nx {P : Env → Prop} {Q : Env → R → Prop} {B : Env → Prop} {s : Sl} {t : List Sl} : GoesX P Q B (.ok (s :: t) .nx) = P (s :: t) := nr rfl
@[simp] theorem goesX_ct {P : Env → Prop} {Q : Env → R → Prop} {B : Env → Prop} {s : Sl} {t : List Sl} : GoesX P Q B (.ok (s :: t) .ct) = P (s :: t) := nr rfl
@[simp] theorem goesX_bk {P : Env → Prop} {Q : Env → R → Prop} {B : Env → Prop} {s : Sl} {t : List Sl} : GoesX P Q B (.ok (s :: t) .bk) = B (s :: t) := nr rfl
@[simp] theorem goesX_rt {P : Env → Prop} {Q : Env → R → Prop} {B : Env → Prop} {s : Sl} {t : List Sl} {r : R} : GoesX P Q B (.ok (s :: t) (.rt r)) = Q (s :: t) r := nr rfl
/-- ... neither return nor break -/
def Goes (P : Env → Prop) : O Fl → Prop
  | .ok ρ .nx => P ρ
  | .ok ρ .ct => P ρ
  | _ => False
@[simp] theorem goes_nx {P : Env → Prop} {s : Sl} {t : List Sl} : Goes P (.ok (s :: t) .nx) = P (s :: t) := nr rfl
@[simp] theorem goes_ct {P : Env → Prop} {s : Sl} {t : List Sl} : Goes P (.ok (s :: t) .ct) = P (s :: t) := nr rfl
theorem Goes.of {P : Env → Prop} {o : O Fl} {ρ : Env} (h : o = .ok ρ .nx) (p : P ρ) : Goes P o := by rw [h]; exact p
theorem Goes.inv {P : Env → Prop} {o : O Fl} (h : Goes P o) : ∃ ρ fl, o = .ok ρ fl ∧ (fl = .nx ∨ fl = .ct) ∧ P ρ := by
  unfold Goes at h
  split at h
  · exact ⟨_, _, rfl, .inl rfl, h⟩
  · exact ⟨_, _, rfl, .inr rfl, h⟩
  · exact h.elim
theorem bind_inv {α β : Type} {o : O α} {f : Env → α → O β} {ρ : Env} {b : β} (h : o.bind f = .ok ρ b) : ∃ ρ1 a, o = .ok ρ1 a ∧ f ρ1 a = .ok ρ b := by
  cases o with
  | ok ρ1 a => exact ⟨ρ1, a, rfl, h⟩
  | er ρ1 e => cases h
  | un => cases h
theorem loopL {α : Type} {g : Env → R → O Unit} {b : Env → O Fl} (e : Nat → α → R) (I : List α → Env → Prop) : ∀ (t d : List α) (ρ : Env), I d ρ →
    (∀ d' x t' ρ, d ++ t = d' ++ x :: t' → I d' ρ → Goes (I (d' ++ [x])) ((g ρ (e d'.length x)).bind fun ρ _ => b ρ)) →
    ∃ ρ', dLoop g b (t.mapIdx fun i x => e (d.length + i) x) ρ = .ok ρ' .nx ∧ I (d ++ t) ρ'
  | [], d, ρ, h, _ => ⟨ρ, rfl, by rw [List.append_nil]; exact h⟩
  | x :: t, d, ρ, h, st => by
    obtain ⟨ρ2, fl, e12, hf, h2⟩ := (st d x t ρ rfl h).inv
    obtain ⟨ρ1, u, e1, e2⟩ := bind_inv e12
    obtain ⟨ρ', e3, h3⟩ := loopL e I t (d ++ [x]) ρ2 h2 fun d' y t' ρ q hI => st d' y t' ρ (by rw [← q, List.append_assoc]; rfl) hI
    refine ⟨ρ', ?_, by rw [List.append_assoc] at h3; exact h3⟩
    rw [List.mapIdx_cons, Nat.add_zero]
    unfold dLoop
    rw [e1, O.bind_ok, e2, O.bind_ok]
    have : (t.mapIdx fun i y => e (d.length + (i + 1)) y) = t.mapIdx fun i y => e ((d ++ [x]).length + i) y := by
      congr 1
      funext i y
      rw [List.length_append, List.length_singleton]
      congr 1
      omega
    rw [this]
    rcases hf with rfl | rfl <;> exact e3
/-- the items of a list that are gone through -/
def fzs (ds : List D) : List R := ds.map .fz
@[simp] theorem itemsOf_lst (ds : List D) : itemsOf (.lst ds) = some (fzs ds) := nr rfl
@[simp] theorem itemsOf_tup (ds : List D) : itemsOf (.tup ds) = some (fzs ds) := nr rfl
@[simp] theorem rng_up0 (n : Nat) : rngItems 0 1 n = fzs ((List.range n).map iN) := by
  rw [rngItems_up0]
  unfold fzs
  rw [List.map_map]
  rfl
@[simp] theorem rng_up (a n : Nat) : rngItems (nI a) 1 n = fzs ((List.range' a n).map iN) := by
  unfold nI
  rw [rngItems_up]
  unfold fzs
  rw [List.map_map]
  rfl
@[simp] theorem rng_down (a : Nat) : rngItems (nI a) (-1) (a + 1) = fzs ((List.range (a + 1)).reverse.map iN) := by
  unfold nI
  rw [rngItems_down]
  unfold fzs
  rw [List.map_map]
  rfl
theorem loop_l {α : Type} {g : Env → R → O Unit} {b : Env → O Fl} (f : α → D) (I : List α → Env → Prop) {xs : List α} {ρ : Env} (h : I [] ρ)
    (st : ∀ d x t ρ, xs = d ++ x :: t → I d ρ → Goes (I (d ++ [x])) ((g ρ (.fz (f x))).bind fun ρ _ => b ρ)) : ∃ ρ', dLoop g b (fzs (xs.map f)) ρ = .ok ρ' .nx ∧ I xs ρ' := by
  obtain ⟨ρ', e, q⟩ := loopL (fun _ x => .fz (f x)) I xs [] ρ h st
  refine ⟨ρ', ?_, q⟩
  rw [← e, mapIdx_c]
  unfold fzs
  rw [List.map_map]
  rfl
theorem loop_e {α : Type} {g : Env → R → O Unit} {b : Env → O Fl} (f : α → D) (I : List α → Env → Prop) {xs : List α} {ρ : Env} (h : I [] ρ)
    (st : ∀ d x t ρ, xs = d ++ x :: t → I d ρ → Goes (I (d ++ [x])) ((g ρ (.tp [.fz (iN d.length), .fz (f x)])).bind fun ρ _ => b ρ)) : ∃ ρ', dLoop g b (enumItems (xs.map f)) ρ = .ok ρ' .nx ∧ I xs ρ' := by
  obtain ⟨ρ', e, q⟩ := loopL (fun i x => .tp [.fz (iN i), .fz (f x)]) I xs [] ρ h st
  refine ⟨ρ', ?_, q⟩
  rw [← e]
  unfold enumItems
  rw [mapIdx_m]
  congr 2
  funext i x
  simp
theorem GoesX.inv {P : Env → Prop} {Q : Env → R → Prop} {B : Env → Prop} {o : O Fl} (h : GoesX P Q B o) : ∃ ρ fl, o = .ok ρ fl ∧ (((fl = .nx ∨ fl = .ct) ∧ P ρ) ∨ (fl = .bk ∧ B ρ) ∨ ∃ r, fl = .rt r ∧ Q ρ r) := by
  unfold GoesX at h
  split at h
  · exact ⟨_, _, rfl, .inl ⟨.inl rfl, h⟩⟩
  · exact ⟨_, _, rfl, .inl ⟨.inr rfl, h⟩⟩
  · exact ⟨_, _, rfl, .inr (.inl ⟨rfl, h⟩)⟩
  · exact ⟨_, _, rfl, .inr (.inr ⟨_, rfl, h⟩)⟩
  · exact h.elim
theorem enum_idx {α : Type} (f : α → D) (xs : List α) : enumItems (xs.map f) = xs.mapIdx fun i x => .tp [.fz (iN i), .fz (f x)] := by
  unfold enumItems
  rw [mapIdx_m]
  congr 1
def lcFin (vs : List Nat) : O D → Option (Env × Option D)
  | .ok ρ d => some (wipeE ρ vs, some d)
  | _ => none
def lcIf (f : Env → O R) (vs : List Nat) : O Bool → Option (Env × Option D)
  | .ok ρ true => lcFin vs ((f ρ).bind DN.esc)
  | .ok ρ false => some (wipeE ρ vs, none)
  | _ => none
def lcSt (t : Env → O Bool) (f : Env → O R) (vs : List Nat) : O Unit → Option (Env × Option D)
  | .ok ρ _ => lcIf f vs (t ρ)
  | _ => none
/-- one item of a comprehension -/
def lcOne (g : Env → R → O Unit) (t : Env → O Bool) (f : Env → O R) (vs : List Nat) (ρ : Env) (r : R) : Option (Env × Option D) := lcSt t f vs (g ρ r)
@[simp] theorem zt_lcOne (g : Env → R → O Unit) (t : Env → O Bool) (f : Env → O R) (vs : List Nat) (s : Sl) (u : List Sl) (r : R) : lcOne g t f vs (s :: u) r = lcSt t f vs (g (s :: u) r) := nr rfl
@[simp] theorem zt_lcSt (t : Env → O Bool) (f : Env → O R) (vs : List Nat) (ρ : Env) (x : Unit) : lcSt t f vs (.ok ρ x) = lcIf f vs (t ρ) := nr rfl
@[simp] theorem zt_lcIfT (f : Env → O R) (vs : List Nat) (ρ : Env) : lcIf f vs (.ok ρ true) = lcFin vs ((f ρ).bind DN.esc) := nr rfl
@[simp] theorem zt_lcIfF (f : Env → O R) (vs : List Nat) (ρ : Env) : lcIf f vs (.ok ρ false) = some (wipeE ρ vs, none) := nr rfl
@[simp] theorem zt_lcFin (vs : List Nat) (ρ : Env) (d : D) : lcFin vs (.ok ρ d) = some (wipeE ρ vs, some d) := nr rfl
theorem lcLoop_cons {g : Env → R → O Unit} {t : Env → O Bool} {f : Env → O R} {vs : List Nat} {r : R} {rs : List R} {ρ ρ' : Env} {acc : List D} {o : Option D} (h : lcOne g t f vs ρ r = some (ρ', o)) (hl : acc.length < 100000) :
    lcLoop g t f vs (r :: rs) ρ acc = lcLoop g t f vs rs ρ' (acc ++ o.toList) := by
  unfold lcOne at h
  rw [lcLoop]
  cases e1 : g ρ r with
  | ok ρ1 u =>
    rw [e1, zt_lcSt] at h
    simp only
    cases e2 : t ρ1 with
    | ok ρ2 b =>
      rw [e2] at h
      cases b with
      | true =>
        rw [zt_lcIfT] at h
        simp only
        cases e3 : (f ρ2).bind DN.esc with
        | ok ρ3 d =>
          rw [e3, zt_lcFin] at h
          cases h
          simp only [hl, if_true, Option.toList_some]
        | er ρ3 e => rw [e3] at h; cases h
        | un => rw [e3] at h; cases h
      | false =>
        rw [zt_lcIfF] at h
        cases h
        simp only [Option.toList_none, List.append_nil]
    | er ρ2 e => rw [e2] at h; cases h
    | un => rw [e2] at h; cases h
  | er ρ1 e => rw [e1] at h; cases h
  | un => rw [e1] at h; cases h
/-- how one item of a comprehension goes -/
def LcGo (P : Env → List D → Prop) : Option (Env × Option D) → Prop
  | some (ρ, o) => P ρ o.toList
  | none => False
@[simp] theorem lcGo_t {P : Env → List D → Prop} {s : Sl} {t : List Sl} {d : D} : LcGo P (some (s :: t, some d)) = P (s :: t) [d] := nr rfl
@[simp] theorem lcGo_f {P : Env → List D → Prop} {s : Sl} {t : List Sl} : LcGo P (some (s :: t, none)) = P (s :: t) [] := nr rfl
/-- [.. for x in xs] -/
theorem lc_map {α : Type} {g : Env → R → O Unit} {t : Env → O Bool} {f : Env → O R} {vs : List Nat} {ρ : Env} (e : α → D) (F : α → D) {xs : List α} (h : ∀ x ∈ xs, lcOne g t f vs ρ (.fz (e x)) = some (ρ, some (F x))) (hl : xs.length ≤ 100000) :
    lcLoop g t f vs (fzs (xs.map e)) ρ [] = some (ρ, xs.map F) := by
  have key : ∀ (ys : List α) (acc : List D), (∀ x ∈ ys, lcOne g t f vs ρ (.fz (e x)) = some (ρ, some (F x))) → acc.length + ys.length ≤ 100000 → lcLoop g t f vs (fzs (ys.map e)) ρ acc = some (ρ, acc ++ ys.map F) := by
    intro ys
    induction ys with
    | nil => intro acc _ _; rw [List.map_nil]; unfold fzs; rw [List.map_nil, lcLoop]; simp
    | cons y ys ih =>
      intro acc q ql
      have ql' : acc.length + (ys.length + 1) ≤ 100000 := by simpa using ql
      have := ih (acc ++ [F y]) (fun x hx => q x (List.mem_cons_of_mem _ hx)) (by simp; omega)
      rw [List.map_cons]
      show lcLoop g t f vs (.fz (e y) :: fzs (ys.map e)) ρ acc = _
      rw [lcLoop_cons (q y List.mem_cons_self) (by omega)]
      simpa using this
  simpa using key xs [] h (by simpa using hl)
/-- [.. for x in xs if ..] -/
theorem lc_filter {α : Type} {g : Env → R → O Unit} {t : Env → O Bool} {f : Env → O R} {vs : List Nat} {ρ : Env} (e : α → D) (p : α → Bool) (F : α → D) {xs : List α} (h : ∀ x ∈ xs, lcOne g t f vs ρ (.fz (e x)) = some (ρ, if p x = true then some (F x) else none)) (hl : xs.length ≤ 100000) :
    lcLoop g t f vs (fzs (xs.map e)) ρ [] = some (ρ, (xs.filter p).map F) := by
  have key : ∀ (ys : List α) (acc : List D), (∀ x ∈ ys, lcOne g t f vs ρ (.fz (e x)) = some (ρ, if p x = true then some (F x) else none)) → acc.length + ys.length ≤ 100000 → lcLoop g t f vs (fzs (ys.map e)) ρ acc = some (ρ, acc ++ (ys.filter p).map F) := by
    intro ys
    induction ys with
    | nil => intro acc _ _; rw [List.map_nil]; unfold fzs; rw [List.map_nil, lcLoop]; simp
    | cons y ys ih =>
      intro acc q ql
      have ql' : acc.length + (ys.length + 1) ≤ 100000 := by simpa using ql
      rw [List.map_cons]
      show lcLoop g t f vs (.fz (e y) :: fzs (ys.map e)) ρ acc = _
      rw [lcLoop_cons (q y List.mem_cons_self) (by omega)]
      by_cases hp : p y = true
      · rw [if_pos hp, ih _ (fun x hx => q x (List.mem_cons_of_mem _ hx)) (by simp; omega), List.filter_cons_of_pos hp]
        simp
      · rw [if_neg hp, ih _ (fun x hx => q x (List.mem_cons_of_mem _ hx)) (by simp; omega), List.filter_cons_of_neg hp]
        simp
  simpa using key xs [] h (by simpa using hl)
/-- [.. for k, x in enumerate(xs)] -/
theorem lc_enum {α : Type} {g : Env → R → O Unit} {t : Env → O Bool} {f : Env → O R} {vs : List Nat} {ρ : Env} (e : α → D) (p : Nat → α → Bool) (F : Nat → α → D) {xs : List α} (h : ∀ i x, xs[i]? = some x → lcOne g t f vs ρ (.tp [.fz (iN i), .fz (e x)]) = some (ρ, if p i x = true then some (F i x) else none)) (hl : xs.length ≤ 100000) :
    lcLoop g t f vs (enumItems (xs.map e)) ρ [] = some (ρ, ((xs.zipIdx.filter fun q => p q.2 q.1).map fun q => F q.2 q.1)) := by
  have key : ∀ (ys : List (α × Nat)) (acc : List D), (∀ q ∈ ys, lcOne g t f vs ρ (.tp [.fz (iN q.2), .fz (e q.1)]) = some (ρ, if p q.2 q.1 = true then some (F q.2 q.1) else none)) → acc.length + ys.length ≤ 100000 →
      lcLoop g t f vs (ys.map fun q => .tp [.fz (iN q.2), .fz (e q.1)]) ρ acc = some (ρ, acc ++ (ys.filter fun q => p q.2 q.1).map fun q => F q.2 q.1) := by
    intro ys
    induction ys with
    | nil => intro acc _ _; rw [List.map_nil, lcLoop]; simp
    | cons y ys ih =>
      intro acc q ql
      have ql' : acc.length + (ys.length + 1) ≤ 100000 := by simpa using ql
      rw [List.map_cons, lcLoop_cons (q y List.mem_cons_self) (by omega)]
      by_cases hp : p y.2 y.1 = true
      · rw [if_pos hp, ih _ (fun x hx => q x (List.mem_cons_of_mem _ hx)) (by simp; omega), List.filter_cons_of_pos (by exact hp)]
        simp
      · rw [if_neg hp, ih _ (fun x hx => q x (List.mem_cons_of_mem _ hx)) (by simp; omega), List.filter_cons_of_neg (by simpa using hp)]
        simp
  have := key xs.zipIdx [] (fun q hq => h q.2 q.1 (by
    have := List.mem_zipIdx_iff_getElem?.mp hq
    exact this)) (by simpa using hl)
  rw [enum_idx, List.mapIdx_eq_zipIdx_map]
  simpa using this
@[simp] def zs_wipeE_1 := fun (s : Sl) (t : List Sl) => nr (@wipeE.eq_1 (s :: t))
@[simp] def zs_wipeE_2 := fun (s : Sl) (t : List Sl) x1 x2 => nr (@wipeE.eq_2 (s :: t) x1 x2)
@[simp] def zs_restoreE_1 := fun (s : Sl) (t : List Sl) (s1 : Sl) (t1 : List Sl) => nr (@restoreE.eq_1 (s :: t) (s1 :: t1))
@[simp] def zs_restoreE_2 := fun (s : Sl) (t : List Sl) (s1 : Sl) (t1 : List Sl) x2 x3 => nr (@restoreE.eq_2 (s :: t) (s1 :: t1) x2 x3)
@[simp] def zs_dYes_1 := fun (s : Sl) (t : List Sl) => nr (show dYes (s :: t) = .ok (s :: t) true from rfl)
@[simp] def zs_isOwn_1 := fun x0 => nr (@isOwn.eq_1 x0)
@[simp] theorem isOwn_fz (d : D) : isOwn (.fz d) = false := nr rfl
@[simp] theorem isOwn_ln (d : D) : isOwn (.ln d) = false := nr rfl
@[simp] theorem isOwn_un : isOwn .un = false := nr rfl
@[simp] def zs_noOwnAt_1 := fun (s : Sl) (t : List Sl) x1 => nr (@noOwnAt.eq_1 (s :: t) x1)
def finLR (ρ : Env) : Option D → O R
  | some (.int n) => if rgOk 0 n = true then .ok ρ (.own (.lst (rgD 0 n))) else .un
  | _ => .un
@[simp] theorem zt_dLstRg1 (f : Env → O R) (s : Sl) (t : List Sl) : dLstRg (dRg1 f) (s :: t) = (dN f (s :: t)).bind fun ρ r => finLR ρ (useR ρ r) := by
  unfold dLstRg dRg1
  cases dN f (s :: t) with
  | ok ρ r =>
    rw [O.bind_ok, O.bind_ok]
    cases e : useR ρ r with
    | none => simp [finLR, O.bind]
    | some d => cases d <;> simp [finLR, O.bind]
  | er ρ e => rfl
  | un => rfl
@[simp] theorem finLR_N {ρ : Env} {n : Nat} (h : n ≤ 1000000) : finLR ρ (some (iN n)) = .ok ρ (.own (.lst ((List.range n).map iN))) := by
  refine (finLR.eq_1 ρ _).trans ((if_pos (rgOk0 h)).trans ?_)
  rw [rgD_N]
def finLR2 (ρ : Env) : Option D → Option D → O R
  | some (.int n), some (.int m) => if rgOk n m = true then .ok ρ (.own (.lst (rgD n m))) else .un
  | _, _ => .un
@[simp] theorem zt_dLstRg2 (f h : Env → O R) (s : Sl) (t : List Sl) : dLstRg (dRg2 f h) (s :: t) = (dN f (s :: t)).bind fun ρ r1 => (dN h ρ).bind fun ρ r2 => finLR2 ρ (useR ρ r1) (useR ρ r2) := by
  unfold dLstRg dRg2
  cases dN f (s :: t) with
  | ok ρ r =>
    rw [O.bind_ok, O.bind_ok]
    cases dN h ρ with
    | ok ρ2 r2 =>
      rw [O.bind_ok, O.bind_ok]
      cases e : useR ρ2 r with
      | none => simp [finLR2, O.bind]
      | some d =>
        cases e2 : useR ρ2 r2 with
        | none => cases d <;> simp [finLR2, O.bind]
        | some d2 => cases d <;> cases d2 <;> simp [finLR2, O.bind]
    | er ρ e => rfl
    | un => rfl
  | er ρ e => rfl
  | un => rfl
theorem rgOk2 {a c : Nat} (h : a ≤ 1000000) (h2 : c ≤ 1000000) : rgOk (a : Int) (c : Int) = true := decide_eq_true (by omega)
@[simp] theorem finLR2_N {ρ : Env} {a c : Nat} (h : a ≤ 1000000) (h2 : c ≤ 1000000) : finLR2 ρ (some (iN a)) (some (iN c)) = .ok ρ (.own (.lst ((List.range' a (c - a)).map iN))) := by
  refine (finLR2.eq_1 ρ _ _).trans ((if_pos (rgOk2 h h2)).trans ?_)
  unfold rgD
  rw [List.range'_eq_map_range, List.map_map, show ((c : Int) - a).toNat = c - a by omega]
  rfl
theorem lstRep_1 {d : D} {n : Nat} (h : n ≤ 100000) : lstRep (.lst [d]) (iN n) = some (.own (.lst (List.replicate n d))) := by
  refine (lstRep.eq_1 _ _).trans ((if_pos ⟨by omega, by omega, by rw [Int.toNat_natCast]; simp; omega⟩).trans ?_)
  rw [Int.toNat_natCast]
  congr 3
  induction n with
  | zero => rfl
  | succ n ih => rw [List.replicate_succ, List.replicate_succ, List.flatten_cons, ih (by omega)]; rfl
@[simp] theorem gMul_rep {d : D} {n : Nat} (h : n ≤ 100000) : gMul (.lst [d]) (iN n) = some (.own (.lst (List.replicate n d))) := by
  unfold gMul
  rw [orE_r (by rfl)]
  exact lstRep_1 h
def finLc (ρ : Env) (vs : List Nat) : Option (Env × List D) → O R
  | some (ρ', ds) => .ok (restoreE ρ ρ' vs) (.own (.lst ds))
  | none => .un
@[simp] theorem zt_dLc (fi : Env → O (List R)) (g : Env → R → O Unit) (t : Env → O Bool) (f : Env → O R) (vs : List Nat) (s : Sl) (u : List Sl) : dLc fi g t f vs (s :: u) = (fi (s :: u)).bind fun ρ items => if noOwnAt ρ vs = true then finLc ρ vs (lcLoop g t f vs items (wipeE ρ vs) []) else .un := by
  unfold dLc
  congr 1
@[simp] theorem zt_finLc (ρ ρ' : Env) (vs : List Nat) (ds : List D) : finLc ρ vs (some (ρ', ds)) = .ok (restoreE ρ ρ' vs) (.own (.lst ds)) := nr rfl
@[simp] theorem swaps_nil {α : Type} (xs : List α) : swaps [] xs = xs := nr rfl
def WGo (T F : Env → Prop) : O Bool → Prop
  | .ok ρ true => T ρ
  | .ok ρ false => F ρ
  | _ => False
@[simp] theorem wgo_t {T F : Env → Prop} {s : Sl} {t : List Sl} : WGo T F (.ok (s :: t) true) = T (s :: t) := nr rfl
@[simp] theorem wgo_f {T F : Env → Prop} {s : Sl} {t : List Sl} : WGo T F (.ok (s :: t) false) = F (s :: t) := nr rfl
@[simp] theorem wgo_d {T F : Env → Prop} {s : Sl} {t : List Sl} {p : Prop} [Decidable p] : WGo T F (.ok (s :: t) (decide p)) = if p then T (s :: t) else F (s :: t) := by
  by_cases h : p <;> simp [h]
@[simp] theorem wgo_n {T F : Env → Prop} {s : Sl} {t : List Sl} {p : Prop} [Decidable p] : WGo T F (.ok (s :: t) (!decide p)) = if p then F (s :: t) else T (s :: t) := by
  by_cases h : p <;> simp [h]
theorem WGo.inv {T F : Env → Prop} {o : O Bool} (h : WGo T F o) : ∃ ρ b, o = .ok ρ b ∧ (if b = true then T ρ else F ρ) := by
  unfold WGo at h
  split at h
  · exact ⟨_, true, rfl, by simpa using h⟩
  · exact ⟨_, false, rfl, by simpa using h⟩
  · exact h.elim
theorem while_ok {c : Env → O Bool} {b : Env → O Fl} (I : Nat → Env → Prop) (Q : Env → Prop)
    (st : ∀ n ρ, I n ρ → WGo (fun ρ1 => Goes (fun ρ2 => ∃ m, m < n ∧ I m ρ2) (b ρ1)) Q (c ρ)) : ∀ (k n : Nat) (ρ : Env), n < k → I n ρ → ∃ ρ', dWhile c b k ρ = .ok ρ' .nx ∧ Q ρ'
  | 0, _, _, h, _ => absurd h (Nat.not_lt_zero _)
  | k + 1, n, ρ, h, hI => by
    obtain ⟨ρ1, v, e1, h1⟩ := (st n ρ hI).inv
    unfold dWhile
    rw [e1, O.bind_ok]
    cases v with
    | false => exact ⟨ρ1, rfl, by simpa using h1⟩
    | true =>
      obtain ⟨ρ2, fl, e2, hf, m, hm, h2⟩ := (show Goes _ (b ρ1) by simpa using h1).inv
      rw [if_pos rfl, e2, O.bind_ok]
      obtain ⟨ρ', e3, h3⟩ := while_ok I Q st k m ρ2 (by omega) h2
      refine ⟨ρ', ?_, h3⟩
      rcases hf with rfl | rfl <;> exact e3
theorem while_fuel {c : Env → O Bool} {b : Env → O Fl} (I : Nat → Env → Prop) (Q : Env → Prop) {n : Nat} {ρ : Env} (hn : n < 100000) (h : I n ρ)
    (st : ∀ n ρ, I n ρ → WGo (fun ρ1 => Goes (fun ρ2 => ∃ m, m < n ∧ I m ρ2) (b ρ1)) Q (c ρ)) : ∃ ρ', dWhile c b fuel ρ = .ok ρ' .nx ∧ Q ρ' := while_ok I Q st fuel n ρ hn h
class Enc (α : Type) where
  enc : α → D
  pyo : α → PyData
  dep : Nat
  okx : α → Prop
  siz : α → Nat
  h_py : ∀ x, py (enc x) = some (pyo x)
  h_lay : ∀ x, (pyo x).canLay0 = true
  h_dep : ∀ x, (pyo x).depth ≤ dep
  h_eqv : ∀ x y, PyData.eqv (pyo x) (pyo y) = true ↔ x = y
  h_show : ∀ x, okx x → (pyo x).showable = true ∧ (pyo x).shown.length ≤ siz x
theorem shown_nat {x k : Nat} (h : x < 2 ^ k) (hk : k ≤ 1900) : ((x : Int).natAbs.log2 < 1920) ∧ (PyData.shown (.int (x : Int))).length ≤ k + 2 := by
  have hx : (x : Int).natAbs.log2 < k + 1 := by
    rw [Int.natAbs_natCast]
    by_cases h0 : x = 0
    · subst h0
      show Nat.log2 0 < _
      rw [Nat.log2_zero]
      omega
    · exact Nat.lt_succ_of_lt ((Nat.log2_lt h0).mpr h)
  refine ⟨by omega, ?_⟩
  have := PySem.int_text_length_le (a := (x : Int)) (k := k + 1) (by omega) hx
  rw [PyData.shown]
  show (Str.ofString (toString (x : Int))).length ≤ _
  rw [PySem.ofString_length]
  exact this
instance : Enc Nat where
  enc x := iN x
  pyo x := .int x
  dep := 0
  okx x := x < 2 ^ 1900
  siz x := x.log2 + 3
  h_py _ := rfl
  h_lay _ := rfl
  h_dep _ := Nat.le_refl _
  h_eqv x y := by
    rw [PyData.eqv, beq_iff_eq]
    exact Int.ofNat_inj
  h_show x h := by
    have h1 : x.log2 + 1 ≤ 1900 := by
      by_cases h0 : x = 0
      · subst h0; rw [Nat.log2_zero]; omega
      · exact (Nat.log2_lt h0).mpr h
    obtain ⟨a, b⟩ := shown_nat (x := x) (k := x.log2 + 1) Nat.lt_log2_self h1
    exact ⟨decide_eq_true a, b⟩
instance : Enc Bool where
  enc x := .bl x
  pyo x := .bool x
  dep := 0
  okx _ := True
  siz _ := 5
  h_py _ := rfl
  h_lay _ := rfl
  h_dep _ := Nat.le_refl _
  h_eqv x y := by
    rw [PyData.eqv, beq_iff_eq]
  h_show x h := by cases x <;> decide
section
variable {α : Type} [Enc α]
theorem pys_enc : ∀ xs : List α, pys (xs.map Enc.enc) = some (xs.map Enc.pyo)
  | [] => rfl
  | x :: xs => by
    rw [List.map_cons, pys, Enc.h_py, pys_enc xs]
    rfl
theorem lay_enc : ∀ xs : List α, PyData.canLayAll0 (xs.map Enc.pyo) = true
  | [] => rfl
  | x :: xs => by rw [List.map_cons, PyData.canLayAll0, Enc.h_lay, lay_enc xs]; rfl
theorem dep_enc : ∀ xs : List α, PyData.depthAll (xs.map Enc.pyo) ≤ Enc.dep α
  | [] => Nat.zero_le _
  | x :: xs => by
    rw [List.map_cons, PyData.depthAll]
    exact Nat.max_le.mpr ⟨Enc.h_dep x, dep_enc xs⟩
theorem eqv_enc : ∀ xs ys : List α, PyData.eqvAll (xs.map Enc.pyo) (ys.map Enc.pyo) = true ↔ xs = ys
  | [], [] => by simp [PyData.eqvAll]
  | [], y :: ys => by simp [PyData.eqvAll]
  | x :: xs, [] => by simp [PyData.eqvAll]
  | x :: xs, y :: ys => by
    rw [List.map_cons, List.map_cons, PyData.eqvAll, Bool.and_eq_true, eqv_enc xs ys, Enc.h_eqv, List.cons.injEq]
theorem show_enc : ∀ xs : List α, (∀ x ∈ xs, Enc.okx x) → PyData.showableAll (xs.map Enc.pyo) = true ∧ ((PyData.shownAll (xs.map Enc.pyo)).map (·.length)).sum ≤ (xs.map Enc.siz).sum ∧ (PyData.shownAll (xs.map Enc.pyo)).length = xs.length
  | [], _ => ⟨rfl, Nat.le_refl _, rfl⟩
  | x :: xs, h => by
    obtain ⟨h1, h2, h3⟩ := show_enc xs fun y hy => h y (List.mem_cons_of_mem _ hy)
    obtain ⟨k1, k2⟩ := Enc.h_show x (h x List.mem_cons_self)
    refine ⟨?_, ?_, ?_⟩
    · rw [List.map_cons, PyData.showableAll, h1, k1]; rfl
    · simp only [PyData.shownAll, List.map_cons, List.sum_cons]; omega
    · simp [PyData.shownAll, h3]
instance : Enc (List α) where
  enc xs := .lst (xs.map Enc.enc)
  pyo xs := .list (xs.map Enc.pyo)
  dep := Enc.dep α + 1
  okx xs := ∀ x ∈ xs, Enc.okx x
  siz xs := (xs.map Enc.siz).sum + 2 * xs.length + 3
  h_py xs := by
    rw [py.eq_def]
    show (pys (xs.map Enc.enc)).map PyData.list = _
    rw [pys_enc]
    rfl
  h_lay xs := by rw [PyData.canLay0]; exact lay_enc xs
  h_dep xs := by
    rw [PyData.depth]
    have := dep_enc xs
    omega
  h_eqv xs ys := by rw [PyData.eqv]; exact eqv_enc xs ys
  h_show xs h := by
    obtain ⟨h1, h2, h3⟩ := show_enc xs h
    have := PySem.listText_len_le (PyData.shownAll (xs.map Enc.pyo))
    refine ⟨?_, ?_⟩
    · rw [PyData.showable]; exact h1
    · rw [PyData.shown]; omega
end
section
variable {α β γ : Type} [Enc α] [Enc β] [Enc γ]
instance : Enc (α × β) where
  enc p := .tup [Enc.enc p.1, Enc.enc p.2]
  pyo p := .tuple [Enc.pyo p.1, Enc.pyo p.2]
  dep := max (Enc.dep α) (Enc.dep β) + 1
  okx p := Enc.okx p.1 ∧ Enc.okx p.2
  siz p := Enc.siz p.1 + Enc.siz p.2 + 7
  h_py p := by
    rw [py.eq_def]
    show (pys [Enc.enc p.1, Enc.enc p.2]).map PyData.tuple = _
    rw [pys, pys, pys, Enc.h_py, Enc.h_py]
    rfl
  h_lay p := by rw [PyData.canLay0, PyData.canLayAll0, PyData.canLayAll0, PyData.canLayAll0, Enc.h_lay, Enc.h_lay]; rfl
  h_dep p := by
    rw [PyData.depth, PyData.depthAll, PyData.depthAll, PyData.depthAll]
    have := Enc.h_dep p.1
    have := Enc.h_dep p.2
    omega
  h_eqv p q := by
    rw [PyData.eqv, PyData.eqvAll, PyData.eqvAll, PyData.eqvAll, Bool.and_true, Bool.and_eq_true, Enc.h_eqv, Enc.h_eqv, Prod.ext_iff]
  h_show p h := by
    obtain ⟨a1, a2⟩ := Enc.h_show p.1 h.1
    obtain ⟨b1, b2⟩ := Enc.h_show p.2 h.2
    have := PySem.tupleText_len_le (PyData.shownAll [Enc.pyo p.1, Enc.pyo p.2])
    refine ⟨?_, ?_⟩
    · rw [PyData.showable, PyData.showableAll, PyData.showableAll, PyData.showableAll, a1, b1]; rfl
    · rw [PyData.shown]
      simp only [PyData.shownAll, List.map_cons, List.map_nil, List.sum_cons, List.sum_nil, List.length_cons, List.length_nil] at this ⊢
      omega
end
/-- a tuple of three -/
structure Tri where
  a : Nat
  b : Nat
  c : Nat
  deriving DecidableEq, Inhabited
def tri (t : Tri) : D := .tup [iN t.a, iN t.b, iN t.c]
instance : Enc Tri where
  enc t := tri t
  pyo t := .tuple [.int t.a, .int t.b, .int t.c]
  dep := 1
  okx t := t.a < 2 ^ 1900 ∧ t.b < 2 ^ 1900 ∧ t.c < 2 ^ 1900
  siz t := t.a.log2 + t.b.log2 + t.c.log2 + 20
  h_py _ := rfl
  h_lay _ := rfl
  h_dep _ := by simp [PyData.depth, PyData.depthAll]
  h_eqv x y := by
    cases x; cases y
    simp [PyData.eqv, PyData.eqvAll]
    omega
  h_show t h := by
    obtain ⟨a1, a2⟩ := Enc.h_show t.a h.1
    obtain ⟨b1, b2⟩ := Enc.h_show t.b h.2.1
    obtain ⟨c1, c2⟩ := Enc.h_show t.c h.2.2
    have := PySem.tupleText_len_le (PyData.shownAll [Enc.pyo t.a, Enc.pyo t.b, Enc.pyo t.c])
    refine ⟨?_, ?_⟩
    · rw [PyData.showable, PyData.showableAll, PyData.showableAll, PyData.showableAll, PyData.showableAll]
      exact and_t a1 (and_t b1 (and_t c1 rfl))
    · rw [PyData.shown]
      simp only [PyData.shownAll, List.map_cons, List.map_nil, List.sum_cons, List.sum_nil, List.length_cons, List.length_nil] at this ⊢
      have e1 : Enc.siz t.a = t.a.log2 + 3 := rfl
      have e2 : Enc.siz t.b = t.b.log2 + 3 := rfl
      have e3 : Enc.siz t.c = t.c.log2 + 3 := rfl
      have f1 : (PyData.int (t.a : Int)).shown = (Enc.pyo t.a).shown := rfl
      have f2 : (PyData.int (t.b : Int)).shown = (Enc.pyo t.b).shown := rfl
      have f3 : (PyData.int (t.c : Int)).shown = (Enc.pyo t.c).shown := rfl
      rw [f1, f2, f3]
      omega
section
variable {α : Type} [Enc α] [DecidableEq α]
theorem eqD_enc (hd : Enc.dep α ≤ 64) (x y : α) : eqD (Enc.enc x) (Enc.enc y) = some (decide (x = y)) := by
  unfold eqD
  rw [Enc.h_py, Enc.h_py]
  have s : ∀ x : α, PySem.SeqAt.shaped (Enc.pyo x) = true := fun x => by
    unfold PySem.SeqAt.shaped
    rw [Enc.h_lay, Bool.true_and, decide_eq_true_eq]
    exact Nat.le_trans (Enc.h_dep x) hd
  simp only [s, Bool.and_self, if_true, Option.some.injEq]
  rw [Bool.eq_iff_iff, Enc.h_eqv, decide_eq_true_eq]
theorem gEqS_lst (xs : List D) (y : D) : gEqS (.lst xs) y = none := by cases y <;> rfl
theorem gNeS_lst (xs : List D) (y : D) : gNeS (.lst xs) y = none := by cases y <;> rfl
theorem gEqS_tup (xs : List D) (y : D) : gEqS (.tup xs) y = none := by cases y <;> rfl
theorem gNeS_tup (xs : List D) (y : D) : gNeS (.tup xs) y = none := by cases y <;> rfl
end
def tN (p : Nat × Nat) : D := .tup [iN p.1, iN p.2]
/-- a mapping -/
def mpD (p : List Nat × Nat) : D := .tup [.lst (p.1.map iN), iN p.2]
section
@[simp] theorem gEq2_Ns (x y : List Nat) : gEq2 (.lst (x.map iN)) (.lst (y.map iN)) = some (.fz (.bl (decide (x = y)))) := gEq2_of (eqD_enc (by decide) x y) (gEqS_lst _ _)
@[simp] theorem gNe2_Ns (x y : List Nat) : gNe2 (.lst (x.map iN)) (.lst (y.map iN)) = some (.fz (.bl (!decide (x = y)))) := gNe2_of (eqD_enc (by decide) x y) (gNeS_lst _ _)
@[simp] theorem gEq2_N0 (x : List Nat) : gEq2 (.lst (x.map iN)) (.lst []) = some (.fz (.bl (decide (x = [])))) := gEq2_Ns x []
@[simp] theorem gNe2_N0 (x : List Nat) : gNe2 (.lst (x.map iN)) (.lst []) = some (.fz (.bl (!decide (x = [])))) := gNe2_Ns x []
@[simp] theorem gNe2_00 : gNe2 (.lst []) (.lst []) = some (.fz (.bl false)) := gNe2_Ns [] []
@[simp] theorem gEq2_00 : gEq2 (.lst []) (.lst []) = some (.fz (.bl true)) := gEq2_Ns [] []
@[simp] theorem gEq2_tri (x y : Tri) : gEq2 (tri x) (tri y) = some (.fz (.bl (decide (x = y)))) := gEq2_of (eqD_enc (by decide) x y) (gEqS_tup _ _)
@[simp] theorem gEq2_tris (x y : List Tri) : gEq2 (.lst (x.map tri)) (.lst (y.map tri)) = some (.fz (.bl (decide (x = y)))) := gEq2_of (eqD_enc (by decide) x y) (gEqS_lst _ _)
@[simp] theorem gNe2_tris (x y : List Tri) : gNe2 (.lst (x.map tri)) (.lst (y.map tri)) = some (.fz (.bl (!decide (x = y)))) := gNe2_of (eqD_enc (by decide) x y) (gNeS_lst _ _)
@[simp] theorem gEq2_tN (x y : Nat × Nat) : gEq2 (tN x) (tN y) = some (.fz (.bl (decide (x = y)))) := gEq2_of (eqD_enc (by decide) x y) (gEqS_tup _ _)
@[simp] theorem gEq2_mp (x y : List Nat × Nat) : gEq2 (mpD x) (mpD y) = some (.fz (.bl (decide (x = y)))) := gEq2_of (eqD_enc (by decide) x y) (gEqS_tup _ _)
@[simp] theorem gNe2_mp (x y : List Nat × Nat) : gNe2 (mpD x) (mpD y) = some (.fz (.bl (!decide (x = y)))) := gNe2_of (eqD_enc (by decide) x y) (gNeS_tup _ _)
instance : Enc Int where
  enc x := .int x
  pyo x := .int x
  dep := 0
  okx x := x.natAbs < 2 ^ 1900
  siz x := x.natAbs.log2 + 3
  h_py _ := rfl
  h_lay _ := rfl
  h_dep _ := Nat.le_refl _
  h_eqv x y := by
    rw [PyData.eqv, beq_iff_eq]
  h_show x h := by
    have h1 : x.natAbs.log2 + 1 ≤ 1900 := by
      by_cases h0 : x.natAbs = 0
      · rw [h0, Nat.log2_zero]; omega
      · exact (Nat.log2_lt h0).mpr h
    have := PySem.int_text_length_le (a := x) (k := x.natAbs.log2 + 1) (by omega) (by omega)
    refine ⟨decide_eq_true (by omega), ?_⟩
    rw [PyData.shown]
    show (Str.ofString (toString x)).length ≤ _
    rw [PySem.ofString_length]
    omega
@[simp] theorem gNe2_I0 (x : List Int) : gNe2 (.lst (x.map D.int)) (.lst []) = some (.fz (.bl (!decide (x = [])))) := gNe2_of (eqD_enc (α := List Int) (by decide) x []) (gNeS_lst _ _)
@[simp] theorem gEq2_I0 (x : List Int) : gEq2 (.lst (x.map D.int)) (.lst []) = some (.fz (.bl (decide (x = [])))) := gEq2_of (eqD_enc (α := List Int) (by decide) x []) (gEqS_lst _ _)
end
end DN
namespace PG
open PySem PySem.Spec PyProof.Rows L2 DN
def x__law_agreeing_1 : DN.Env → O Bool := (dTest (dOp gEq2 (dOp gIx (dVar 5) (dVar 3)) (dVar 4)))
def x__law_agreeing_2 : DN.Env → O Fl := (dAsg (store 2) (dLc (dIt (dVar 2)) (store 5) x__law_agreeing_1 (dVar 5) [5]))
def b__law_agreeing : DN.Env → O Fl := (dSeq (dAsg (store 2) (dVar 0))
    (dSeq (dLendS 1 (dFor (dItLn 1) (storeN [3, 4]) x__law_agreeing_2))
    (dRet (dVar 2))))
def d__law_agreeing : List D → FO := denF [.fz, .ln] 6 b__law_agreeing
def b__law_draw : DN.Env → O Fl := (dSeq (dIfS (dTest (dOp gGt (dOp gIx (dVar 0) (dC (iN 0))) (dC (iN 0)))) (dSeq (dAsg (store 2) (dOp gMod (dCB gInt (dConsN (dOp gIx (dVar 0) (dC (iN 0))) dNil)) (dVar 1)))
    (dSeq (dSetI 0 gPut (dC (iN 0)) (dOp gDiv (dOp gIx (dVar 0) (dC (iN 0))) (dVar 1)))
    (dRet (dVar 2)))) dNext)
    (dSeq (dSetI 0 gPut (dC (iN 2)) (dOp gAdd (dOp gIx (dVar 0) (dC (iN 2))) (dC (iN 1))))
    (dSeq (dAsg (store 3) (dOp gMod (dCB gInt (dConsN (dOp gPow (dOp gAdd (dOp gIx (dVar 0) (dC (iN 1))) (dOp gMul (dC (iN 700001)) (dOp gIx (dVar 0) (dC (iN 2))))) (dC (iN 3))) dNil)) (dOp gAdd (dOp gPow (dC (iN 10)) (dC (iN 39))) (dC (iN 3)))))
    (dSeq (dAsg (store 3) (dOp gMod (dCB gInt (dConsN (dOp gPow (dOp gAdd (dOp gMul (dVar 3) (dOp gIx (dVar 0) (dC (iN 2)))) (dC (iN 90031))) (dC (iN 3))) dNil)) (dOp gAdd (dOp gPow (dC (iN 10)) (dC (iN 41))) (dC (iN 81)))))
    (dRet (dOp gMod (dCB gInt (dConsN (dOp gDiv (dVar 3) (dC (iN 131101))) dNil)) (dVar 1)))))))
def d__law_draw : List D → FO := denF [.io, .ln] 4 b__law_draw
def x__law_odd_1 : DN.Env → O Bool := (dTest (dOp gGt (dVar 0) (dC (iN 0))))
def x__law_odd_2 : DN.Env → O Fl := (dSeq (dAsg (store 0) (dOp gAnd (dVar 0) (dOp gSub (dVar 0) (dC (iN 1)))))
    (dAsg (store 1) (dOp gSub (dC (iN 1)) (dVar 1))))
def b__law_odd : DN.Env → O Fl := (dSeq (dAsg (store 1) (dC (iN 0)))
    (dSeq (dWhile x__law_odd_1 x__law_odd_2 fuel)
    (dRet (dVar 1))))
def d__law_odd : List D → FO := denF [.ln] 2 b__law_odd
def b__law_source : DN.Env → O Fl := (dSeq (dAsg (store 2) (dCB gAbs (dConsN (dVar 0) dNil)))
    (dRet (dLst (dCons (dCB gMax (dConsN (dC (iN 0)) (dConsN (dOp gSub (dVar 2) (dOp gPow (dC (iN 10)) (dC (iN 18)))) dNil))) (dCons (dOp gAdd (dOp gAdd (dOp gMul (dOp gMod (dCB gInt (dConsN (dVar 2) dNil)) (dOp gAdd (dOp gPow (dC (iN 10)) (dC (iN 43))) (dC (iN 57)))) (dC (iN 89))) (dOp gMul (dC (iN 2)) (dVar 1))) (dCB gInt (dConsN (dOp gLt (dVar 0) (dC (iN 0))) dNil))) (dCons (dC (iN 0)) dNil))))))
def d__law_source : List D → FO := denF [.ln, .ln] 3 b__law_source
def b__law_spots : DN.Env → O Fl := (dRet (dLstRg (dRg1 (dOp gShl (dC (iN 1)) (dVar 0)))))
def d__law_spots : List D → FO := denF [.ln] 1 b__law_spots
def x_bits_of_1 : DN.Env → O Bool := (dTest (dOp gEq2 (dOp gAnd (dOp gShr (dVar 0) (dVar 1)) (dC (iN 1))) (dC (iN 1))))
def b_bits_of : DN.Env → O Fl := (dRet (dLc (dRng rng1 (dCons (dUn gBits (dVar 0)) dNil)) (store 1) x_bits_of_1 (dVar 1) [1]))
def d_bits_of : List D → FO := denF [.ln] 2 b_bits_of
def b_is_integer : DN.Env → O Fl := (dSeq (dIfS (dOr (dNot (dTru (dCB gIsi (dConsN (dVar 0) (dConsN (dC (.ty "int")) dNil))))) (dTru (dCB gIsi (dConsN (dVar 0) (dConsN (dC (.ty "bool")) dNil))))) (dRet (dC (.bl false))) dNext)
    (dRet (dAndV (dOrV (dOp gIsN (dVar 1) (dC .non)) (dOp gGe (dVar 0) (dVar 1))) (dOrV (dOp gIsN (dVar 2) (dC .non)) (dOp gLe (dVar 0) (dVar 2))))))
def d_is_integer : List D → FO := denF [.ln, .fz, .fz] 3 b_is_integer
def x_marked_1 : DN.Env → O R := (dOp gOr (dVar 2) (dOp gShl (dC (iN 1)) (dVar 0)))
def b_marked : DN.Env → O Fl := (dRet (dLend 1 (dLc (dItLn 1) (store 2) dYes x_marked_1 [2])))
def d_marked : List D → FO := denF [.ln, .ln] 3 b_marked
def x_mask_of_1 : DN.Env → O R := (dOp gShl (dC (iN 1)) (dVar 1))
def b_mask_of : DN.Env → O Fl := (dRet (dCB gSum (dConsN (dLend 0 (dLc (dItLn 0) (store 1) dYes x_mask_of_1 [1])) dNil)))
def d_mask_of : List D → FO := denF [.ln] 2 b_mask_of
def b_need_few : DN.Env → O Fl := (dIfS (dTest (dOp gGt (dVar 0) (dVar 1))) dUS dNext)
def d_need_few : List D → FO := denF [.ln, .ln] 2 b_need_few
def x_parity_1 : DN.Env → O Fl := (dAug 1 gXor (dOp gShr (dVar 1) (dVar 2)))
def b_parity : DN.Env → O Fl := (dSeq (dAsg (store 1) (dVar 0))
    (dSeq (dFor (dIt (dTup (dCons (dC (iN 64)) (dCons (dC (iN 32)) (dCons (dC (iN 16)) (dCons (dC (iN 8)) (dCons (dC (iN 4)) (dCons (dC (iN 2)) (dCons (dC (iN 1)) dNil))))))))) (store 2) x_parity_1)
    (dRet (dOp gAnd (dVar 1) (dC (iN 1))))))
def d_parity : List D → FO := denF [.fz] 3 b_parity
def x_put_together_1 : DN.Env → O Fl := (dAug 2 gXor (dOp gIx (dVar 0) (dVar 3)))
def b_put_together : DN.Env → O Fl := (dSeq (dAsg (store 2) (dC (iN 0)))
    (dSeq (dLendS 1 (dFor (dItLn 1) (store 3) x_put_together_1))
    (dRet (dVar 2))))
def d_put_together : List D → FO := denF [.ln, .ln] 4 b_put_together
def x_reduced_1 : DN.Env → O Fl := (dIfS (dTest (dOp gEq2 (dOp gAnd (dOp gShr (dVar 1) (dVar 3)) (dC (iN 1))) (dC (iN 1)))) (dPar [1, 2] (dCons (dOp gXor (dVar 1) (dOp gIx (dOp gIx (dVar 0) (dVar 3)) (dC (iN 0)))) (dCons (dOp gXor (dVar 2) (dOp gIx (dOp gIx (dVar 0) (dVar 3)) (dC (iN 1)))) dNil))) dNext)
def b_reduced : DN.Env → O Fl := (dSeq (dFor (dIt (dCB gSorted (dConsN (dVar 0) dNil))) (store 3) x_reduced_1)
    (dRet (dTup (dCons (dVar 1) (dCons (dVar 2) dNil)))))
def d_reduced : List D → FO := denF [.ln, .fz, .fz] 4 b_reduced
def x__law_every_1 : DN.Env → O R := (dOp gShl (dCall [.ln] d__law_odd [] (dCons (dOp gAnd (dVar 4) (dVar 8)) dNil)) (dVar 2))
def x__law_every_2 : DN.Env → O R := (dOp gOr (dVar 9) (dVar 10))
def x__law_every_3 : DN.Env → O R := (dLc (dZip (dCons (dVar 7) (dCons (dVar 5) dNil))) (storeN [9, 10]) dYes x__law_every_2 [9, 10])
def x__law_every_4 : DN.Env → O Fl := (dSeq (dAsg (store 5) (dLc (dRng rng1 (dCons (dOp gShl (dC (iN 1)) (dVar 0)) dNil)) (store 8) dYes x__law_every_1 [8]))
    (dAsg (store 3) (dOp gAdd (dVar 3) (dLend 1 (dLc (dItLn 1) (store 7) dYes x__law_every_3 [7])))))
def x__law_every_5 : DN.Env → O Bool := (dTest (dOp gEq2 (dUn gLenSet (dVar 7)) (dOp gShl (dC (iN 2)) (dVar 2))))
def x__law_every_6 : DN.Env → O Fl := (dSeq (dAsg (store 3) (dLst dNil))
    (dSeq (dFor (dRng rng2 (dCons (dC (iN 1)) (dCons (dOp gShl (dC (iN 1)) (dVar 0)) dNil))) (store 4) x__law_every_4)
    (dLendS 3 (dAsg (store 1) (dLc (dItLn 3) (store 7) x__law_every_5 (dVar 7) [7])))))
def x__law_every_7 : DN.Env → O R := (dOp gXor (dVar 9) (dVar 11))
def x__law_every_8 : DN.Env → O R := (dLend 7 (dLc (dItLn 7) (store 9) dYes x__law_every_7 [9]))
def x__law_every_9 : DN.Env → O Fl := (dAsg (store 6) (dOp gAdd (dVar 6) (dLc (dRng rng1 (dCons (dOp gShl (dC (iN 1)) (dVar 0)) dNil)) (store 11) dYes x__law_every_8 [11])))
def b__law_every : DN.Env → O Fl := (dSeq (dAsg (store 1) (dLst (dCons (dOp gMul (dLst (dCons (dC (iN 0)) dNil)) (dOp gShl (dC (iN 1)) (dVar 0))) dNil)))
    (dSeq (dFor (dRng rng1 (dCons (dVar 0) dNil)) (store 2) x__law_every_6)
    (dSeq (dAsg (store 6) (dLst dNil))
    (dSeq (dLendS 1 (dFor (dItLn 1) (store 7) x__law_every_9))
    (dRet (dVar 6))))))
def d__law_every : List D → FO := denF [.ln] 12 b__law_every
def x__law_goal_1 : DN.Env → O Fl := (dAsg (store 4) (dOp gXor (dVar 4) (dOp gShl (dCall [.ln] d__law_odd [] (dCons (dOp gAnd (dVar 6) (dVar 1)) dNil)) (dVar 5))))
def b__law_goal : DN.Env → O Fl := (dSeq (dAsg (storeN [2, 3]) (dVar 0))
    (dSeq (dAsg (store 4) (dVar 3))
    (dSeq (dLendS 2 (dFor (dEnLn 2) (storeN [5, 6]) x__law_goal_1))
    (dRet (dVar 4)))))
def d__law_goal : List D → FO := denF [.fz, .ln] 7 b__law_goal
def x__law_pairs_k52_1 : DN.Env → O Fl := (dSeq (dAsg (store 7) (dCall [.io, .ln] d__law_draw [] (dCons (dVar 0) (dCons (dOp gShl (dC (iN 1)) (dVar 1)) dNil))))
    (dSeq (dAsg (store 8) (dIf (dTest (dOp gGt (dCall [.io, .ln] d__law_draw [] (dCons (dVar 0) (dCons (dC (iN 8)) dNil))) (dC (iN 0)))) (dOp gIx (dVar 4) (dVar 7)) (dCall [.io, .ln] d__law_draw [] (dCons (dVar 0) (dCons (dOp gShl (dC (iN 1)) (dVar 1)) dNil)))))
    (dDrop (dBM 5 isLst gAppend (dCons (dTup (dCons (dVar 7) (dCons (dVar 8) dNil))) dNil)))))
def b__law_pairs_k52 : DN.Env → O Fl := (dSeq (dPar [4, 5] (dCons (dOp gIx (dVar 3) (dCall [.io, .ln] d__law_draw [] (dCons (dVar 0) (dCons (dCB gLen (dConsN (dVar 3) dNil)) dNil)))) (dCons (dLst dNil) dNil)))
    (dSeq (dFor (dRng rng1 (dCons (dVar 2) dNil)) (store 6) x__law_pairs_k52_1)
    (dRet (dVar 5))))
def d__law_pairs_k52 : List D → FO := denF [.io, .ln, .ln, .ln] 9 b__law_pairs_k52
def b_begins_of : DN.Env → O Fl := (dRet (dCall [.ln, .ln] d_marked [] (dCons (dVar 0) (dCons (dLend 1 (dLc (dItLn 1) (storeN [2, 3]) dYes (dVar 2) [2, 3])) dNil))))
def d_begins_of : List D → FO := denF [.ln, .ln] 4 b_begins_of
def x_columns_of_1 : DN.Env → O Bool := (dTest (dOp gEq2 (dOp gAnd (dOp gShr (dVar 3) (dVar 1)) (dC (iN 1))) (dC (iN 1))))
def x_columns_of_2 : DN.Env → O R := (dCall [.ln] d_mask_of [] (dCons (dLend 0 (dLc (dEnLn 0) (storeN [2, 3]) x_columns_of_1 (dVar 2) [2, 3])) dNil))
def b_columns_of : DN.Env → O Fl := (dRet (dLc (dRng rng1 (dCons (dCB gLen (dConsN (dVar 0) dNil)) dNil)) (store 1) dYes x_columns_of_2 [1]))
def d_columns_of : List D → FO := denF [.ln] 4 b_columns_of
def x_eliminated_1 : DN.Env → O Fl := (dSeq (dAsg (storeN [5, 6]) (dCall [.ln, .fz, .fz] d_reduced [] (dCons (dVar 1) (dCons (dVar 4) (dCons (dOp gShl (dC (iN 1)) (dVar 3)) dNil)))))
    (dIfS (dTest (dOp gEq2 (dVar 5) (dC (iN 0)))) (dDrop (dBM 2 isLst gAppend (dCons (dVar 6) dNil))) (dSetI 1 gPut (dOp gSub (dUn gBits (dOp gAnd (dVar 5) (dUn gNeg (dVar 5)))) (dC (iN 1))) (dTup (dCons (dVar 5) (dCons (dVar 6) dNil))))))
def b_eliminated : DN.Env → O Fl := (dSeq (dPar [1, 2] (dCons dDnew (dCons (dLst dNil) dNil)))
    (dSeq (dLendS 0 (dFor (dEnLn 0) (storeN [3, 4]) x_eliminated_1))
    (dRet (dTup (dCons (dVar 1) (dCons (dVar 2) dNil))))))
def d_eliminated : List D → FO := denF [.ln] 7 b_eliminated
def b_ends_of : DN.Env → O Fl := (dRet (dCall [.ln, .ln] d_marked [] (dCons (dVar 0) (dCons (dLend 1 (dLc (dItLn 1) (storeN [2, 3]) dYes (dVar 3) [2, 3])) dNil))))
def d_ends_of : List D → FO := denF [.ln, .ln] 4 b_ends_of
def b_is_place : DN.Env → O Fl := (dRet (dCall [.ln, .fz, .fz] d_is_integer [] (dCons (dVar 1) (dCons (dC (iN 0)) (dCons (dOp gSub (dOp gShl (dC (iN 1)) (dVar 0)) (dC (iN 1))) dNil)))))
def d_is_place : List D → FO := denF [.ln, .ln] 2 b_is_place
def x_moved_1 : DN.Env → O R := (dOp gShl (dCall [.fz] d_parity [] (dCons (dOp gAnd (dVar 5) (dVar 1)) dNil)) (dVar 4))
def b_moved : DN.Env → O Fl := (dSeq (dAsg (storeN [2, 3]) (dVar 0))
    (dRet (dOp gXor (dVar 3) (dCB gSum (dConsN (dLend 2 (dLc (dEnLn 2) (storeN [4, 5]) dYes x_moved_1 [4, 5])) dNil)))))
def d_moved : List D → FO := denF [.fz, .ln] 6 b_moved
def b_need_bits : DN.Env → O Fl := (dIfS (dNot (dTru (dCall [.ln, .fz, .fz] d_is_integer [] (dCons (dVar 0) (dCons (dC (iN 1)) (dCons (dC (iN 60)) dNil)))))) (dRaise "InvalidBits") dNext)
def d_need_bits : List D → FO := denF [.ln] 1 b_need_bits
def x_System___init___1 : DN.Env → O Bool := (dTest (dOp gEq2 (dVar 6) (dC (iN 1))))
def x_System___init___2 : DN.Env → O Bool := (dTest (dOp gEq2 (dCall [.fz] d_parity [] (dCons (dOp gAnd (dVar 7) (dUn (gFld ["System"] "ones") (dVar 0))) dNil)) (dC (iN 1))))
def x_System___init___3 : DN.Env → O Bool := (dTest (dOp gNotIn (dVar 8) (dUn (gFld ["System"] "leads") (dVar 0))))
def b_System___init__ : DN.Env → O Fl := (dSeq (dAsg (storeF 0 ["System"] "bits_kept") (dVar 1))
    (dSeq (dAsg (storeF 0 ["System"] "ones") (dCall [.ln] d_mask_of [] (dCons (dLend 3 (dLc (dEnLn 3) (storeN [5, 6]) x_System___init___1 (dVar 5) [5, 6])) dNil)))
    (dSeq (dAsg (storeT [.fld 0 ["System"] "leads", .nm 4]) (dCall [.ln] d_eliminated [] (dCons (dVar 2) dNil)))
    (dSeq (dAsg (storeF 0 ["System"] "wrong") (dLend 4 (dLc (dItLn 4) (store 7) x_System___init___2 (dVar 7) [7])))
    (dAsg (storeF 0 ["System"] "free") (dLc (dRng rng1 (dCons (dVar 1) dNil)) (store 8) x_System___init___3 (dVar 8) [8]))))))
def d_System___init__ : List D → FO := denF [.io, .fz, .ln, .ln] 9 b_System___init__
def x_back_1 : DN.Env → O R := (dOp gIx (dCall [.ln, .fz, .fz] d_reduced [] (dCons (dVar 3) (dCons (dOp gShl (dC (iN 1)) (dVar 5)) (dCons (dC (iN 0)) dNil)))) (dC (iN 1)))
def b_back : DN.Env → O Fl := (dSeq (dAsg (storeN [1, 2]) (dVar 0))
    (dSeq (dAsg (store 3) (dOp gIx (dCall [.ln] d_eliminated [] (dCons (dVar 1) dNil)) (dC (iN 0))))
    (dSeq (dAsg (store 4) (dLc (dRng rng1 (dCons (dCB gLen (dConsN (dVar 1) dNil)) dNil)) (store 5) dYes x_back_1 [5]))
    (dRet (dTup (dCons (dVar 4) (dCons (dCall [.fz, .ln] d_moved [] (dCons (dTup (dCons (dVar 4) (dCons (dC (iN 0)) dNil))) (dCons (dVar 2) dNil))) dNil)))))))
def d_back : List D → FO := denF [.fz] 6 b_back
def x_behind_1 : DN.Env → O R := (dCall [.ln, .ln] d_put_together [] (dCons (dVar 2) (dCons (dCall [.ln] d_bits_of [] (dCons (dVar 4) dNil)) dNil)))
def b_behind : DN.Env → O Fl := (dSeq (dAsg (storeN [2, 3]) (dVar 0))
    (dRet (dTup (dCons (dLc (dIt (dOp gIx (dVar 1) (dC (iN 0)))) (store 4) dYes x_behind_1 [4]) (dCons (dCall [.fz, .ln] d_moved [] (dCons (dVar 1) (dCons (dVar 3) dNil))) dNil)))))
def d_behind : List D → FO := denF [.fz, .fz] 5 b_behind
def x_clash_of_1 : DN.Env → O Fl := (dIfS (dTest (dOp gNe2 (dCall [.ln, .ln] d_put_together [] (dCons (dVar 5) (dCons (dCall [.ln] d_bits_of [] (dCons (dVar 6) dNil)) dNil))) (dC (iN 0)))) (dRet (dCall [.ln] d_bits_of [] (dCons (dVar 6) dNil))) dNext)
def x_clash_of_2 : DN.Env → O Fl := (dFor (dIt (dOp gIx (dCall [.ln] d_eliminated [] (dCons (dVar 4) dNil)) (dC (iN 1)))) (store 6) x_clash_of_1)
def b_clash_of : DN.Env → O Fl := (dSeq (dPar [2, 3] (dCons (dCall [.ln, .ln] d_begins_of [] (dCons (dVar 0) (dCons (dVar 1) dNil))) (dCons (dCall [.ln, .ln] d_ends_of [] (dCons (dVar 0) (dCons (dVar 1) dNil))) dNil)))
    (dSeq (dFor (dIt (dTup (dCons (dTup (dCons (dVar 2) (dCons (dVar 3) dNil))) (dCons (dTup (dCons (dVar 3) (dCons (dVar 2) dNil))) dNil)))) (storeN [4, 5]) x_clash_of_2)
    (dRet (dC .non))))
def d_clash_of : List D → FO := denF [.ln, .ln] 7 b_clash_of
def x_completed_1 : DN.Env → O R := (dOp gShl (dC (iN 1)) (dVar 3))
def x_completed_2 : DN.Env → O Bool := (dTest (dOp gNotIn (dVar 3) (dVar 2)))
def b_completed : DN.Env → O Fl := (dSeq (dAsg (store 2) (dOp gIx (dCall [.ln] d_eliminated [] (dCons (dVar 1) dNil)) (dC (iN 0))))
    (dRet (dOp gAdd (dVar 1) (dLc (dRng rng1 (dCons (dVar 0) dNil)) (store 3) x_completed_2 x_completed_1 [3]))))
def d_completed : List D → FO := denF [.ln, .ln] 4 b_completed
def b_is_way : DN.Env → O Fl := (dRet (dAndV (dCB gIsi (dConsN (dVar 1) (dConsN (dC (.ty "tuple")) dNil))) (dAndV (dOp gEq2 (dCB gLen (dConsN (dVar 1) dNil)) (dC (iN 2))) (dAndV (dCall [.ln, .ln] d_is_place [] (dCons (dVar 0) (dCons (dOp gIx (dVar 1) (dC (iN 0))) dNil))) (dCall [.ln, .ln] d_is_place [] (dCons (dVar 0) (dCons (dOp gIx (dVar 1) (dC (iN 1))) dNil)))))))
def d_is_way : List D → FO := denF [.ln, .ln] 2 b_is_way
def x_mapping_fault_1 : DN.Env → O Fl := (dSeq (dIfS (dNot (dTru (dCall [.ln, .ln] d_is_place [] (dCons (dCB gLen (dConsN (dVar 1) dNil)) (dCons (dVar 5) dNil))))) (dRet (dTup (dCons (dVar 4) dNil))) dNext)
    (dSeq (dAsg (store 6) (dOp gIx (dCall [.ln, .fz, .fz] d_reduced [] (dCons (dVar 3) (dCons (dVar 5) (dCons (dC (iN 0)) dNil)))) (dC (iN 0))))
    (dSeq (dIfS (dTest (dOp gEq2 (dVar 6) (dC (iN 0)))) (dRet (dTup (dCons (dVar 4) dNil))) dNext)
    (dSetI 3 gPut (dOp gSub (dUn gBits (dOp gAnd (dVar 6) (dUn gNeg (dVar 6)))) (dC (iN 1))) (dTup (dCons (dVar 6) (dCons (dC (iN 0)) dNil)))))))
def b_mapping_fault : DN.Env → O Fl := (dSeq (dIfS (dOr (dNot (dTru (dCB gIsi (dConsN (dVar 0) (dConsN (dC (.ty "tuple")) dNil))))) (dTest (dOp gNe2 (dCB gLen (dConsN (dVar 0) dNil)) (dC (iN 2))))) (dRet (dTup (dCons (dC .non) dNil))) dNext)
    (dSeq (dAsg (storeN [1, 2]) (dVar 0))
    (dSeq (dIfS (dOr (dNot (dTru (dCB gIsi (dConsN (dVar 1) (dConsN (dC (.ty "list")) dNil))))) (dNot (dTest (dChain gLe gLe (dC (iN 1)) (dCB gLen (dConsN (dVar 1) dNil)) (dC (iN 60)))))) (dRet (dTup (dCons (dC .non) dNil))) dNext)
    (dSeq (dAsg (store 3) dDnew)
    (dSeq (dLendS 1 (dFor (dEnLn 1) (storeN [4, 5]) x_mapping_fault_1))
    (dRet (dIf (dTru (dCall [.ln, .ln] d_is_place [] (dCons (dCB gLen (dConsN (dVar 1) dNil)) (dCons (dVar 2) dNil)))) (dTup dNil) (dTup (dCons (dCB gLen (dConsN (dVar 1) dNil)) dNil)))))))))
def d_mapping_fault : List D → FO := denF [.fz] 7 b_mapping_fault
def b_need_place : DN.Env → O Fl := (dIfS (dNot (dTru (dCall [.ln, .ln] d_is_place [] (dCons (dVar 0) (dCons (dVar 1) dNil))))) (dRaise "InvalidPlace") dNext)
def d_need_place : List D → FO := denF [.ln, .ln] 2 b_need_place
def b_rank_of : DN.Env → O Fl := (dRet (dCB gLen (dConsN (dOp gIx (dCall [.ln] d_eliminated [] (dCons (dVar 0) dNil)) (dC (iN 0))) dNil)))
def d_rank_of : List D → FO := denF [.ln] 1 b_rank_of
def x_mapping_with_1 : DN.Env → O R := (dOp gShl (dC (iN 1)) (dVar 13))
def x_mapping_with_2 : DN.Env → O Fl := (dSeq (dAsg (store 9) (dOp gIx (dCall [.ln, .fz, .fz] d_reduced [] (dCons (dVar 6) (dCons (dOp gXor (dVar 7) (dVar 2)) (dCons (dC (iN 0)) dNil)))) (dC (iN 0))))
    (dIfS (dTest (dOp gNe2 (dVar 9) (dC (iN 0)))) (dSeq (dSetI 6 gPut (dOp gSub (dUn gBits (dOp gAnd (dVar 9) (dUn gNeg (dVar 9)))) (dC (iN 1))) (dTup (dCons (dVar 9) (dCons (dC (iN 0)) dNil))))
    (dSeq (dDrop (dBM 4 isLst gAppend (dCons (dOp gXor (dVar 7) (dVar 2)) dNil)))
    (dDrop (dBM 5 isLst gAppend (dCons (dOp gXor (dVar 8) (dVar 3)) dNil))))) dNext))
def b_mapping_with : DN.Env → O Fl := (dSeq (dIfS (dTest (dOp gEq2 (dVar 1) (dLst dNil))) (dRet (dTup (dCons (dLc (dRng rng1 (dCons (dVar 0) dNil)) (store 13) dYes x_mapping_with_1 [13]) (dCons (dC (iN 0)) dNil)))) dNext)
    (dSeq (dAsg (storeN [2, 3]) (dOp gIx (dVar 1) (dC (iN 0))))
    (dSeq (dPar [4, 5, 6] (dCons (dLst dNil) (dCons (dLst dNil) (dCons dDnew dNil))))
    (dSeq (dLendS 1 (dFor (dItLn 1) (storeN [7, 8]) x_mapping_with_2))
    (dSeq (dPar [10, 11] (dCons (dTup (dCons (dCall [.ln] d_columns_of [] (dCons (dCall [.ln, .ln] d_completed [] (dCons (dVar 0) (dCons (dVar 4) dNil))) dNil)) (dCons (dC (iN 0)) dNil))) (dCons (dTup (dCons (dCall [.ln] d_columns_of [] (dCons (dCall [.ln, .ln] d_completed [] (dCons (dVar 0) (dCons (dVar 5) dNil))) dNil)) (dCons (dC (iN 0)) dNil))) dNil)))
    (dSeq (dAsg (store 12) (dOp gIx (dCall [.fz, .fz] d_behind [] (dCons (dCall [.fz] d_back [] (dCons (dVar 10) dNil)) (dCons (dVar 11) dNil))) (dC (iN 0))))
    (dRet (dTup (dCons (dVar 12) (dCons (dOp gXor (dVar 3) (dCall [.fz, .ln] d_moved [] (dCons (dTup (dCons (dVar 12) (dCons (dC (iN 0)) dNil))) (dCons (dVar 2) dNil)))) dNil))))))))))
def d_mapping_with : List D → FO := denF [.ln, .ln] 14 b_mapping_with
def b_need_agreeing : DN.Env → O Fl := (dIfS (dTest (dOp gNotN (dCall [.ln, .ln] d_clash_of [] (dCons (dVar 0) (dCons (dVar 1) dNil))) (dC .non))) (dRaise "Impossible") dNext)
def d_need_agreeing : List D → FO := denF [.ln, .ln] 2 b_need_agreeing
def b_need_mapping : DN.Env → O Fl := (dSeq (dAsg (store 1) (dCall [.fz] d_mapping_fault [] (dCons (dVar 0) dNil)))
    (dIfS (dTest (dOp gNe2 (dVar 1) (dTup dNil))) dUS dNext))
def d_need_mapping : List D → FO := denF [.fz] 2 b_need_mapping
def x_need_ways_1 : DN.Env → O Fl := (dIfS (dNot (dTru (dCall [.ln, .ln] d_is_way [] (dCons (dVar 0) (dCons (dVar 3) dNil))))) dUS dNext)
def b_need_ways : DN.Env → O Fl := (dSeq (dIfS (dOr (dNot (dTru (dCB gIsi (dConsN (dVar 1) (dConsN (dC (.ty "list")) dNil))))) (dTest (dOp gGt (dCB gLen (dConsN (dVar 1) dNil)) (dC (iN 100))))) dUS dNext)
    (dLendS 1 (dFor (dEnLn 1) (storeN [2, 3]) x_need_ways_1)))
def d_need_ways : List D → FO := denF [.ln, .ln] 4 b_need_ways
def x_agrees_1 : DN.Env → O R := (dOp gEq2 (dCall [.fz, .ln] d_moved [] (dCons (dVar 0) (dCons (dVar 2) dNil))) (dVar 3))
def b_agrees : DN.Env → O Fl := (dSeq (dDrop (dCall [.fz] d_need_mapping [] (dCons (dVar 0) dNil)))
    (dSeq (dDrop (dCall [.ln, .ln] d_need_ways [] (dCons (dCB gLen (dConsN (dOp gIx (dVar 0) (dC (iN 0))) dNil)) (dCons (dVar 1) dNil))))
    (dRet (dCB gAll (dConsN (dLend 1 (dLc (dItLn 1) (storeN [2, 3]) dYes x_agrees_1 [2, 3])) dNil)))))
def d_agrees : List D → FO := denF [.fz, .ln] 4 b_agrees
def b_need_both_k52 : DN.Env → O Fl := (dSeq (dDrop (dCall [.ln] d_need_bits [] (dCons (dVar 0) dNil)))
    (dDrop (dCall [.ln, .ln] d_need_ways [] (dCons (dVar 0) (dCons (dVar 1) dNil)))))
def d_need_both_k52 : List D → FO := denF [.ln, .ln] 2 b_need_both_k52
def x_agreeing_count_1 : DN.Env → O Fl := (dAug 3 gMulI (dOp gSub (dOp gShl (dC (iN 1)) (dVar 0)) (dOp gShl (dC (iN 1)) (dVar 4))))
def b_agreeing_count : DN.Env → O Fl := (dSeq (dDrop (dCall [.ln, .ln] d_need_both_k52 [] (dCons (dVar 0) (dCons (dVar 1) dNil))))
    (dSeq (dDrop (dCall [.ln, .ln] d_need_few [] (dCons (dVar 0) (dCons (dC (iN 50)) dNil))))
    (dSeq (dIfS (dTest (dOp gNotN (dCall [.ln, .ln] d_clash_of [] (dCons (dVar 0) (dCons (dVar 1) dNil))) (dC .non))) (dRet (dC (iN 0))) dNext)
    (dSeq (dAsg (store 2) (dCall [.ln] d_rank_of [] (dCons (dCall [.ln, .ln] d_begins_of [] (dCons (dVar 0) (dCons (dVar 1) dNil))) dNil)))
    (dSeq (dAsg (store 3) (dIf (dTest (dOp gEq2 (dVar 2) (dC (iN 0)))) (dOp gShl (dC (iN 1)) (dVar 0)) (dC (iN 1))))
    (dSeq (dFor (dRng rng2 (dCons (dCB gMax (dConsN (dC (iN 0)) (dConsN (dOp gSub (dVar 2) (dC (iN 1))) dNil))) (dCons (dVar 0) dNil))) (store 4) x_agreeing_count_1)
    (dRet (dVar 3))))))))
def d_agreeing_count : List D → FO := denF [.ln, .ln] 5 b_agreeing_count
def b_can_end : DN.Env → O Fl := (dSeq (dDrop (dCall [.ln, .ln] d_need_both_k52 [] (dCons (dVar 0) (dCons (dVar 1) dNil))))
    (dSeq (dDrop (dCall [.ln, .ln] d_need_place [] (dCons (dVar 0) (dCons (dVar 2) dNil))))
    (dSeq (dDrop (dCall [.ln, .ln] d_need_place [] (dCons (dVar 0) (dCons (dVar 3) dNil))))
    (dSeq (dDrop (dCall [.ln, .ln] d_need_agreeing [] (dCons (dVar 0) (dCons (dVar 1) dNil))))
    (dRet (dOp gIsN (dCall [.ln, .ln] d_clash_of [] (dCons (dVar 0) (dCons (dLst (dStar (dVar 1) (dCons (dTup (dCons (dVar 2) (dCons (dVar 3) dNil))) dNil))) dNil))) (dC .non)))))))
def d_can_end : List D → FO := denF [.ln, .ln, .fz, .fz] 4 b_can_end
def b_clash : DN.Env → O Fl := (dSeq (dDrop (dCall [.ln, .ln] d_need_both_k52 [] (dCons (dVar 0) (dCons (dVar 1) dNil))))
    (dRet (dCall [.ln, .ln] d_clash_of [] (dCons (dVar 0) (dCons (dVar 1) dNil)))))
def d_clash : List D → FO := denF [.ln, .ln] 2 b_clash
def b_some_mapping : DN.Env → O Fl := (dSeq (dDrop (dCall [.ln, .ln] d_need_both_k52 [] (dCons (dVar 0) (dCons (dVar 1) dNil))))
    (dRet (dIf (dTest (dOp gIsN (dCall [.ln, .ln] d_clash_of [] (dCons (dVar 0) (dCons (dVar 1) dNil))) (dC .non))) (dCall [.ln, .ln] d_mapping_with [] (dCons (dVar 0) (dCons (dVar 1) dNil))) (dC .non))))
def d_some_mapping : List D → FO := denF [.ln, .ln] 2 b_some_mapping
def b_sure_end : DN.Env → O Fl := (dSeq (dDrop (dCall [.ln, .ln] d_need_both_k52 [] (dCons (dVar 0) (dCons (dVar 1) dNil))))
    (dSeq (dDrop (dCall [.ln, .ln] d_need_place [] (dCons (dVar 0) (dCons (dVar 2) dNil))))
    (dSeq (dDrop (dCall [.ln, .ln] d_need_agreeing [] (dCons (dVar 0) (dCons (dVar 1) dNil))))
    (dSeq (dAsg (storeN [3, 4]) (dCall [.ln, .fz, .fz] d_reduced [] (dCons (dOp gIx (dCall [.ln] d_eliminated [] (dCons (dCall [.ln, .ln] d_begins_of [] (dCons (dVar 0) (dCons (dVar 1) dNil))) dNil)) (dC (iN 0))) (dCons (dOp gOr (dVar 2) (dOp gShl (dC (iN 1)) (dVar 0))) (dCons (dC (iN 0)) dNil)))))
    (dSeq (dIfS (dTest (dOp gEq2 (dVar 3) (dC (iN 0)))) (dRet (dCall [.ln, .ln] d_put_together [] (dCons (dLend 1 (dLc (dItLn 1) (storeN [5, 6]) dYes (dVar 6) [5, 6])) (dCons (dCall [.ln] d_bits_of [] (dCons (dVar 4) dNil)) dNil)))) dNext)
    (dRet (dIf (dAnd (dTest (dOp gEq2 (dVar 0) (dC (iN 1)))) (dTest (dOp gNe2 (dVar 1) (dLst dNil)))) (dOp gXor (dOp gIx (dOp gIx (dVar 1) (dC (iN 0))) (dC (iN 1))) (dC (iN 1))) (dC .non))))))))
def d_sure_end : List D → FO := denF [.ln, .ln, .ln] 7 b_sure_end
def x__law_none_right_k52_1 : DN.Env → O Fl := (dSeq (dTry [("Impossible", true), ("InvalidBits", false), ("InvalidPlace", false)] (dDrop (dBM 2 isLst gAppend (dCons (dCall [.ln, .ln, .ln] d_sure_end [] (dCons (dVar 0) (dCons (dVar 1) (dCons (dVar 3) dNil)))) dNil))) (dDrop (dBM 2 isLst gAppend (dCons (dC (.str "none")) dNil))))
    (dTry [("Impossible", true), ("InvalidBits", false), ("InvalidPlace", false)] (dDrop (dBM 2 isLst gAppend (dCons (dCall [.ln, .ln, .fz, .fz] d_can_end [] (dCons (dVar 0) (dCons (dVar 1) (dCons (dVar 3) (dCons (dVar 3) dNil))))) dNil))) (dDrop (dBM 2 isLst gAppend (dCons (dC (.str "none")) dNil)))))
def b__law_none_right_k52 : DN.Env → O Fl := (dSeq (dAsg (store 2) (dLst dNil))
    (dSeq (dFor (dIt (dTup (dCons (dC (iN 0)) (dCons (dOp gSub (dOp gShl (dC (iN 1)) (dVar 0)) (dC (iN 1))) dNil)))) (store 3) x__law_none_right_k52_1)
    (dRet (dAndV (dOp gEq2 (dVar 2) (dOp gMul (dLst (dCons (dC (.str "none")) dNil)) (dC (iN 4)))) (dAndV (dOp gIsN (dCall [.ln, .ln] d_some_mapping [] (dCons (dVar 0) (dCons (dVar 1) dNil))) (dC .non)) (dOp gNotN (dCall [.ln, .ln] d_clash [] (dCons (dVar 0) (dCons (dVar 1) dNil))) (dC .non)))))))
def d__law_none_right_k52 : List D → FO := denF [.ln, .ln] 4 b__law_none_right_k52
def x__law_sure_right_k52_1 : DN.Env → O R := (dOp gIx (dVar 7) (dVar 3))
def x__law_sure_right_k52_2 : DN.Env → O Bool := (dTest (dOp gNe2 (dCall [.ln, .ln, .fz, .fz] d_can_end [] (dCons (dVar 0) (dCons (dVar 1) (dCons (dVar 3) (dCons (dVar 8) dNil))))) (dOp gIn (dVar 8) (dVar 4))))
def x__law_sure_right_k52_3 : DN.Env → O Fl := (dSeq (dAsg (store 4) (dUn gSortSet (dLend 2 (dLc (dItLn 2) (store 7) dYes x__law_sure_right_k52_1 [7]))))
    (dSeq (dAsg (store 5) (dIf (dTest (dOp gEq2 (dCB gLen (dConsN (dVar 4) dNil)) (dC (iN 1)))) (dOp gIx (dVar 4) (dC (iN 0))) (dC .non)))
    (dSeq (dAsg (store 6) (dLst (dCons (dCall [.ln, .ln, .ln] d_sure_end [] (dCons (dVar 0) (dCons (dVar 1) (dCons (dVar 3) dNil)))) (dCons (dCallS 3 [1, 0, 1] [.ln, .ln, .ln] d_sure_end (dConsN (dVar 3) (dConsN (dVar 1) (dConsN (dVar 0) dNil)))) dNil))))
    (dSeq (dIfS (dTest (dOp gNe2 (dCB gRepr (dConsN (dVar 6) dNil)) (dCB gRepr (dConsN (dLst (dCons (dVar 5) (dCons (dVar 5) dNil))) dNil)))) (dRet (dC (.bl false))) dNext)
    (dIfS (dTest (dOp gNe2 (dLc (dIt (dCall [.ln] d__law_spots [] (dCons (dVar 0) dNil))) (store 8) x__law_sure_right_k52_2 (dVar 8) [8]) (dLst dNil))) (dRet (dC (.bl false))) dNext)))))
def x__law_sure_right_k52_4 : DN.Env → O R := (dOp gIx (dVar 7) (dC (iN 0)))
def b__law_sure_right_k52 : DN.Env → O Fl := (dSeq (dFor (dIt (dCall [.ln] d__law_spots [] (dCons (dVar 0) dNil))) (store 3) x__law_sure_right_k52_3)
    (dRet (dOp gEq2 (dCallS 4 [2, 1, 0, 2, 1, 2] [.ln, .ln, .fz, .fz] d_can_end (dConsN (dC (iN 0)) (dConsN (dC (iN 0)) (dConsN (dVar 1) (dConsN (dVar 0) dNil))))) (dOp gIn (dC (iN 0)) (dLend 2 (dLc (dItLn 2) (store 7) dYes x__law_sure_right_k52_4 [7]))))))
def d__law_sure_right_k52 : List D → FO := denF [.ln, .ln, .ln] 9 b__law_sure_right_k52
def x__law_right_k52_1 : DN.Env → O R := (dCall [.fz, .ln] d__law_goal [] (dCons (dVar 6) (dCons (dVar 7) dNil)))
def b__law_right_k52 : DN.Env → O Fl := (dSeq (dPar [3, 4] (dCons (dCB gRepr (dConsN (dVar 1) dNil)) (dCons (dCall [.fz, .ln] d__law_agreeing [] (dCons (dVar 2) (dCons (dVar 1) dNil))) dNil)))
    (dSeq (dAsg (store 5) (dLst (dCons (dCall [.ln, .ln] d_agreeing_count [] (dCons (dVar 0) (dCons (dVar 1) dNil))) (dCons (dCallS 2 [0] [.ln, .ln] d_agreeing_count (dConsN (dVar 1) (dConsN (dVar 0) dNil))) dNil))))
    (dSeq (dIfS (dTest (dOp gNe2 (dCB gRepr (dConsN (dVar 5) dNil)) (dCB gRepr (dConsN (dOp gMul (dLst (dCons (dCB gLen (dConsN (dVar 4) dNil)) dNil)) (dC (iN 2))) dNil)))) (dRet (dC (.bl false))) dNext)
    (dSeq (dIfS (dTest (dOp gEq2 (dVar 4) (dLst dNil))) (dRet (dAndV (dCall [.ln, .ln] d__law_none_right_k52 [] (dCons (dVar 0) (dCons (dVar 1) dNil))) (dOp gEq2 (dCB gRepr (dConsN (dVar 1) dNil)) (dVar 3)))) dNext)
    (dSeq (dAsg (store 6) (dCall [.ln, .ln] d_some_mapping [] (dCons (dVar 0) (dCons (dVar 1) dNil))))
    (dSeq (dIfS (dOr (dTest (dOp gIsN (dVar 6) (dC .non))) (dOr (dTest (dOp gNotN (dCallS 2 [0] [.ln, .ln] d_clash (dConsN (dVar 1) (dConsN (dVar 0) dNil))) (dC .non))) (dTest (dOp gNe2 (dCB gLen (dConsN (dOp gIx (dVar 6) (dC (iN 0))) dNil)) (dVar 0))))) (dRet (dC (.bl false))) dNext)
    (dSeq (dIfS (dTest (dOp gNotIn (dLc (dIt (dCall [.ln] d__law_spots [] (dCons (dVar 0) dNil))) (store 7) dYes x__law_right_k52_1 [7]) (dVar 4))) (dRet (dC (.bl false))) dNext)
    (dSeq (dIfS (dOr (dTest (dOp gNotB (dCall [.fz, .ln] d_agrees [] (dCons (dVar 6) (dCons (dVar 1) dNil))) (dC (.bl true)))) (dTest (dOp gNotB (dCallS 2 [0] [.fz, .ln] d_agrees (dConsN (dOp gAdd (dVar 1) (dLst (dCons (dTup (dCons (dC (iN 0)) (dCons (dCall [.fz, .ln] d__law_goal [] (dCons (dVar 6) (dCons (dC (iN 1)) dNil))) dNil))) dNil))) (dConsN (dVar 6) dNil))) (dC (.bl false))))) (dRet (dC (.bl false))) dNext)
    (dSeq (dIfS (dTest (dOp gNe2 (dCB gRepr (dConsN (dCallS 2 [0] [.ln, .ln] d_some_mapping (dConsN (dVar 1) (dConsN (dVar 0) dNil))) dNil)) (dCB gRepr (dConsN (dVar 6) dNil)))) (dRet (dC (.bl false))) dNext)
    (dRet (dAndV (dCall [.ln, .ln, .ln] d__law_sure_right_k52 [] (dCons (dVar 0) (dCons (dVar 1) (dCons (dVar 4) dNil)))) (dOp gEq2 (dCB gRepr (dConsN (dVar 1) dNil)) (dVar 3)))))))))))))
def d__law_right_k52 : List D → FO := denF [.ln, .ln, .fz] 8 b__law_right_k52
def x_law_k52_1 : DN.Env → O R := (dCall [.ln] d__law_every [] (dCons (dVar 6) dNil))
def x_law_k52_2 : DN.Env → O Fl := (dSeq (dAsg (store 7) (dOp gIx (dVar 1) (dOp gSub (dVar 6) (dC (iN 1)))))
    (dIfS (dNot (dTru (dCall [.ln, .ln, .fz] d__law_right_k52 [] (dCons (dVar 6) (dCons (dCall [.io, .ln, .ln, .ln] d__law_pairs_k52 [] (dCons (dVar 4) (dCons (dVar 6) (dCons (dCall [.io, .ln] d__law_draw [] (dCons (dVar 4) (dCons (dC (iN 6)) dNil))) (dCons (dVar 7) dNil))))) (dCons (dVar 7) dNil)))))) (dRet (dC (.bl false))) dNext))
def x_law_k52_3 : DN.Env → O Fl := (dSeq (dAsg (store 4) (dCall [.ln, .ln] d__law_source [] (dCons (dVar 3) (dCons (dVar 2) dNil))))
    (dSeq (dAsg (store 5) (dOp gAdd (dLst (dCons (dC (iN 1)) (dCons (dC (iN 2)) (dCons (dC (iN 2)) dNil)))) (dOp gMul (dLst (dCons (dC (iN 3)) dNil)) (dCB gInt (dConsN (dAndV (dOp gEq2 (dVar 2) (dC (iN 0))) (dOp gNe2 (dVar 0) (dLst dNil))) dNil)))))
    (dLendS 5 (dFor (dItLn 5) (store 6) x_law_k52_2))))
def x_law_k52_4 : DN.Env → O R := (dCB gLen (dConsN (dVar 7) dNil))
def b_law_k52 : DN.Env → O Fl := (dSeq (dAsg (store 1) (dLc (dIt (dIf (dTest (dOp gEq2 (dVar 0) (dLst dNil))) (dLst (dCons (dC (iN 1)) (dCons (dC (iN 2)) dNil))) (dLst (dCons (dC (iN 1)) (dCons (dC (iN 2)) (dCons (dC (iN 3)) dNil)))))) (store 6) dYes x_law_k52_1 [6]))
    (dSeq (dFor (dEnum (dCons (dSl (dOp gAdd (dVar 0) (dLst (dCons (dC (iN 0)) dNil))) dNoPart (dPart (dCB gMax (dConsN (dC (iN 1)) (dConsN (dCB gMin (dConsN (dCB gLen (dConsN (dVar 0) dNil)) (dConsN (dC (iN 6)) dNil))) dNil))))) dNil)) (storeN [2, 3]) x_law_k52_3)
    (dRet (dOp gEq2 (dLend 1 (dLc (dItLn 1) (store 7) dYes x_law_k52_4 [7])) (dSl (dLst (dCons (dC (iN 2)) (dCons (dC (iN 24)) (dCons (dC (iN 1344)) dNil)))) dNoPart (dPart (dCB gLen (dConsN (dVar 1) dNil))))))))
def d_law_k52 : List D → FO := denF [.fz] 8 b_law_k52
end PG
namespace K52
open PySem PySem.Spec PyProof.Rows L2 DN PG
section
variable {P : Program} {w : World} {K : PySem.W.Frag} {mg : Str → Option Value}
theorem sc_is_integer : FnScope ["value", "low", "high"] ["value", "low", "high"] (defScope st_is_integer) := ⟨rfl, rfl, rfl, by decide +kernel, rfl, by decide +kernel, by decide +kernel⟩
theorem i_is_integer {f : Addr} {fd : FuncData} (b : Bf mg)
  (hS : sysB K = true)
  (gl : mg "is_integer" = some (.ref f))
  (F : FunD K "is_integer" "is_integer" (defArgs st_is_integer) (defBody st_is_integer) (defScope st_is_integer) [.non, .non] [] f fd) : FnI P w K mg "is_integer" 1 ["value", "low", "high"] [.ln, .fz, .fz] d_is_integer f fd := by
  have bd : Binds K fd ["value", "low", "high"] [] := bind_full (F.binds1 (ps := ["value", "low", "high"]) 3 2 (by simp) rfl fun _ _ _ _ _ _ _ us its h1 h2 => match us, h1, its, h2 with | [_, _, _], _, [_, _], _ => ⟨_, rfl, rfl⟩)
  have nd := sc_is_integer.nd
  exact ⟨gl, F.kp, bd, fun base => fnd_den (Sb := []) F sc_is_integer rfl (io_ok (by decide)) fun cd A out s0 H0 E room hG tk => ⟨_, (dss_cons (ds_if (DW.dt (dw_or (dt_not (dt_truth (de_cb call_isi s_isi (by rfl) b.isinstance bb_isinstance (da_consN (de_var 0) (da_consN (de_ty (by rfl) b.int bb_int) da_nil))))) (dw_or1 (dt_truth (de_cb call_isi s_isi (by rfl) b.isinstance bb_isinstance (da_consN (de_var 0) (da_consN (de_ty (by rfl) b.bool bb_bool) da_nil))))))) (dss_one (ds_ret de_bl)) dss_nil)
    (dss_one (ds_ret (de_and (de_or (de_cmp op_isN s_isN (de_var 1) de_non) (de_one (de_cmp op_ge s_ge (de_var 0) (de_var 1)))) (de_one (de_or (de_cmp op_isN s_isN (de_var 2) de_non) (de_one (de_cmp op_le s_le (de_var 0) (de_var 2)))))))))⟩⟩
theorem sc_need_few : FnScope ["bits", "limit"] ["bits", "limit"] (defScope st_need_few) := ⟨rfl, rfl, rfl, by decide +kernel, rfl, by decide +kernel, by decide +kernel⟩
theorem i_need_few {f : Addr} {fd : FuncData} (b : Bf mg)
  (hS : sysB K = true)
  (gl : mg "need_few" = some (.ref f))
  (F : FunD K "need_few" "need_few" (defArgs st_need_few) (defBody st_need_few) (defScope st_need_few) [] [] f fd) : FnI P w K mg "need_few" 1 ["bits", "limit"] [.ln, .ln] d_need_few f fd := by
  have bd : Binds K fd ["bits", "limit"] [] := F.bindsN fun _ _ _ _ _ _ us hl => match us, hl with | [_, _], _ => rfl
  have nd := sc_need_few.nd
  exact ⟨gl, F.kp, bd, fun base => fnd_den (Sb := []) F sc_need_few rfl (io_ok (by decide)) fun cd A out s0 H0 E room hG tk => ⟨_, (dss_one (ds_if (dt_cmp op_gt s_gt (de_var 0) (de_var 1)) (dss_one ds_no) dss_nil))⟩⟩
theorem sc_parity : FnScope ["number", "left", "half"] ["number"] (defScope st_parity) := ⟨rfl, rfl, rfl, by decide +kernel, rfl, by decide +kernel, by decide +kernel⟩
theorem i_parity {f : Addr} {fd : FuncData} (b : Bf mg)
  (hS : sysB K = true)
  (gl : mg "parity" = some (.ref f))
  (F : FunD K "parity" "parity" (defArgs st_parity) (defBody st_parity) (defScope st_parity) [] [] f fd) : FnI P w K mg "parity" 1 ["number"] [.fz] d_parity f fd := by
  have bd : Binds K fd ["number"] [] := F.bindsN fun _ _ _ _ _ _ us hl => match us, hl with | [_], _ => rfl
  have nd := sc_parity.nd
  exact ⟨gl, F.kp, bd, fun base => fnd_den (Sb := [1, 2, 1]) F sc_parity rfl (io_ok (by decide)) fun cd A out s0 H0 E room hG tk => ⟨_, (dss_cons (ds_set 1 (de_var 0) nd)
    (dss_cons (ds_for (passes_of (by rfl)) (by rfl) (di_any (de_tup (da_cons de_int (da_cons de_int (da_cons de_int (da_cons de_int (da_cons de_int (da_cons de_int (da_cons de_int da_nil))))))))) (dg_name 2 nd) (dss_one (ds_aug 1 nd (de_op op_shr s_shr (de_var 1) (de_var 2)) iop_xor s_xor)))
    (dss_one (ds_ret (de_op op_and s_and (de_var 1) de_int)))))⟩⟩
theorem sc_bits_of : FnScope ["mask", "bit"] ["mask"] (defScope st_bits_of) := ⟨rfl, rfl, rfl, by decide +kernel, rfl, by decide +kernel, by decide +kernel⟩
theorem i_bits_of {f : Addr} {fd : FuncData} (b : Bf mg)
  (hS : sysB K = true)
  (gl : mg "bits_of" = some (.ref f))
  (F : FunD K "bits_of" "bits_of" (defArgs st_bits_of) (defBody st_bits_of) (defScope st_bits_of) [] [] f fd) : FnI P w K mg "bits_of" 1 ["mask"] [.ln] d_bits_of f fd := by
  have bd : Binds K fd ["mask"] [] := F.bindsN fun _ _ _ _ _ _ us hl => match us, hl with | [_], _ => rfl
  have nd := sc_bits_of.nd
  exact ⟨gl, F.kp, bd, fun base => fnd_den (Sb := []) F sc_bits_of rfl (io_ok (by decide)) fun cd A out s0 H0 E room hG tk => ⟨_, (dss_one (ds_ret (de_lcX (own := [("bit", 1)]) (by rfl) nd (di_rng1 (by rfl) b.range (da_cons (de_bits (de_var 0)) da_nil)) (blkOk_by (N := ["mask", "bit"]) (sc := defScope st_bits_of) (by decide +kernel)) (fun _ _ _ _ _ => ⟨_, (dg_name 1 nd)⟩) (fun _ _ _ _ _ => ⟨_, (dif_one (dt_cmp (op_eq2 (by exact room_64 room)) s_eq2 (de_op op_and s_and (de_op op_shr s_shr (de_var 0) (de_var 1)) de_int) de_int))⟩) (fun _ _ _ _ _ => ⟨_, (de_var 1)⟩))))⟩⟩
theorem sc_mask_of : FnScope ["some", "bit"] ["some"] (defScope st_mask_of) := ⟨rfl, rfl, rfl, by decide +kernel, rfl, by decide +kernel, by decide +kernel⟩
theorem i_mask_of {f : Addr} {fd : FuncData} (b : Bf mg)
  (hS : sysB K = true)
  (gl : mg "mask_of" = some (.ref f))
  (F : FunD K "mask_of" "mask_of" (defArgs st_mask_of) (defBody st_mask_of) (defScope st_mask_of) [] [] f fd) : FnI P w K mg "mask_of" 1 ["some"] [.ln] d_mask_of f fd := by
  have bd : Binds K fd ["some"] [] := F.bindsN fun _ _ _ _ _ _ us hl => match us, hl with | [_], _ => rfl
  have nd := sc_mask_of.nd
  exact ⟨gl, F.kp, bd, fun base => fnd_den (Sb := []) F sc_mask_of rfl (io_ok (by decide)) fun cd A out s0 H0 E room hG tk => ⟨_, (dss_one (ds_ret (de_cb (cr_sum (by rfl)) s_sum (by rfl) b.sum bb_sum (da_consN (de_lend 0 (de_lcX (own := [("bit", 1)]) (by rfl) nd (di_ln 0) (blkOk_by (N := ["some", "bit"]) (sc := defScope st_mask_of) (by decide +kernel)) (fun _ _ _ _ _ => ⟨_, (dg_name 1 nd)⟩) (fun _ _ _ _ _ => ⟨_, dif_nil⟩) (fun _ _ _ _ _ => ⟨_, (de_op op_shlW s_shl de_int (de_var 1))⟩))) da_nil))))⟩⟩
theorem sc_reduced : FnScope ["leads", "mask", "picks", "bit"] ["leads", "mask", "picks"] (defScope st_reduced) := ⟨rfl, rfl, rfl, by decide +kernel, rfl, by decide +kernel, by decide +kernel⟩
theorem i_reduced {f : Addr} {fd : FuncData} (b : Bf mg)
  (hS : sysB K = true)
  (gl : mg "reduced" = some (.ref f))
  (F : FunD K "reduced" "reduced" (defArgs st_reduced) (defBody st_reduced) (defScope st_reduced) [] [] f fd) : FnI P w K mg "reduced" 1 ["leads", "mask", "picks"] [.ln, .fz, .fz] d_reduced f fd := by
  have bd : Binds K fd ["leads", "mask", "picks"] [] := F.bindsN fun _ _ _ _ _ _ us hl => match us, hl with | [_, _, _], _ => rfl
  have nd := sc_reduced.nd
  exact ⟨gl, F.kp, bd, fun base => fnd_den (Sb := [3, 1, 2]) F sc_reduced rfl (io_ok (by decide)) fun cd A out s0 H0 E room hG tk => ⟨_, (dss_cons (ds_for (passes_of (by rfl)) (by rfl) (di_any (de_cb (c_sorted (by rfl)) s_sorted (by rfl) b.sorted bb_sorted (da_consN (de_var 0) da_nil))) (dg_name 3 nd) (dss_one (ds_if (dt_cmp (op_eq2 (by exact room_64 room)) s_eq2 (de_op op_and s_and (de_op op_shr s_shr (de_var 1) (de_var 3)) de_int) de_int) (dss_one (ds_par (by rfl) nd (by rfl) (by rfl) (by decide) (by rfl) (by rfl) (da_cons (de_op op_xor s_xor (de_var 1) (de_ix (by exact room_1 room) (de_ix (by exact room_1 room) (de_var 0) (de_var 3)) de_int)) (da_cons (de_op op_xor s_xor (de_var 2) (de_ix (by exact room_1 room) (de_ix (by exact room_1 room) (de_var 0) (de_var 3)) de_int)) da_nil)) (by rfl))) dss_nil)))
    (dss_one (ds_ret (de_tup (da_cons (de_var 1) (da_cons (de_var 2) da_nil))))))⟩⟩
theorem sc_put_together : FnScope ["masks", "indices", "found", "index"] ["masks", "indices"] (defScope st_put_together) := ⟨rfl, rfl, rfl, by decide +kernel, rfl, by decide +kernel, by decide +kernel⟩
theorem i_put_together {f : Addr} {fd : FuncData} (b : Bf mg)
  (hS : sysB K = true)
  (gl : mg "put_together" = some (.ref f))
  (F : FunD K "put_together" "put_together" (defArgs st_put_together) (defBody st_put_together) (defScope st_put_together) [] [] f fd) : FnI P w K mg "put_together" 1 ["masks", "indices"] [.ln, .ln] d_put_together f fd := by
  have bd : Binds K fd ["masks", "indices"] [] := F.bindsN fun _ _ _ _ _ _ us hl => match us, hl with | [_, _], _ => rfl
  have nd := sc_put_together.nd
  exact ⟨gl, F.kp, bd, fun base => fnd_den (Sb := [2, 3, 2]) F sc_put_together rfl (io_ok (by decide)) fun cd A out s0 H0 E room hG tk => ⟨_, (dss_cons (ds_set 2 de_int nd)
    (dss_cons (ds_lend 1 (ds_for (passes_of (by rfl)) (by rfl) (di_ln 1) (dg_name 3 nd) (dss_one (ds_aug 2 nd (de_ix (by exact room_1 room) (de_var 0) (de_var 3)) iop_xor s_xor))))
    (dss_one (ds_ret (de_var 2)))))⟩⟩
theorem sc_marked : FnScope ["bits", "places", "place"] ["bits", "places"] (defScope st_marked) := ⟨rfl, rfl, rfl, by decide +kernel, rfl, by decide +kernel, by decide +kernel⟩
theorem i_marked {f : Addr} {fd : FuncData} (b : Bf mg)
  (hS : sysB K = true)
  (gl : mg "marked" = some (.ref f))
  (F : FunD K "marked" "marked" (defArgs st_marked) (defBody st_marked) (defScope st_marked) [] [] f fd) : FnI P w K mg "marked" 1 ["bits", "places"] [.ln, .ln] d_marked f fd := by
  have bd : Binds K fd ["bits", "places"] [] := F.bindsN fun _ _ _ _ _ _ us hl => match us, hl with | [_, _], _ => rfl
  have nd := sc_marked.nd
  exact ⟨gl, F.kp, bd, fun base => fnd_den (Sb := []) F sc_marked rfl (io_ok (by decide)) fun cd A out s0 H0 E room hG tk => ⟨_, (dss_one (ds_ret (de_lend 1 (de_lcX (own := [("place", 2)]) (by rfl) nd (di_ln 1) (blkOk_by (N := ["bits", "places", "place"]) (sc := defScope st_marked) (by decide +kernel)) (fun _ _ _ _ _ => ⟨_, (dg_name 2 nd)⟩) (fun _ _ _ _ _ => ⟨_, dif_nil⟩) (fun _ _ _ _ _ => ⟨_, (de_op op_or s_or (de_var 2) (de_op op_shlW s_shl de_int (de_var 0)))⟩)))))⟩⟩
theorem sc__law_source : FnScope ["cell", "k", "great"] ["cell", "k"] (defScope st__law_source) := ⟨rfl, rfl, rfl, by decide +kernel, rfl, by decide +kernel, by decide +kernel⟩
theorem i__law_source {f : Addr} {fd : FuncData} (b : Bf mg)
  (hS : sysB K = true)
  (gl : mg "_law_source" = some (.ref f))
  (F : FunD K "_law_source" "_law_source" (defArgs st__law_source) (defBody st__law_source) (defScope st__law_source) [] [] f fd) : FnI P w K mg "_law_source" 1 ["cell", "k"] [.ln, .ln] d__law_source f fd := by
  have bd : Binds K fd ["cell", "k"] [] := F.bindsN fun _ _ _ _ _ _ us hl => match us, hl with | [_, _], _ => rfl
  have nd := sc__law_source.nd
  exact ⟨gl, F.kp, bd, fun base => fnd_den (Sb := [2]) F sc__law_source rfl (io_ok (by decide)) fun cd A out s0 H0 E room hG tk => ⟨_, (dss_cons (ds_set 2 (de_cb call_abs s_abs (by rfl) b.abs bb_abs (da_consN (de_var 0) da_nil)) nd)
    (dss_one (ds_ret (de_lst (da_cons (de_cb (c_max (by rfl)) s_max (by rfl) b.max bb_max (da_consN de_int (da_consN (de_op op_sub s_sub (de_var 2) (de_op o_pow s_pow de_int de_int)) da_nil))) (da_cons (de_op o_add s_add (de_op o_add s_add (de_op o_mul s_mul (de_op op_mod s_mod (de_ct call_int1 s_int (by rfl) b.int bb_int (da_consN (de_var 2) da_nil)) (de_op o_add s_add (de_op o_pow s_pow de_int de_int) de_int)) de_int) (de_op o_mul s_mul de_int (de_var 1))) (de_ct call_int1 s_int (by rfl) b.int bb_int (da_consN (de_cmp op_lt s_lt (de_var 0) de_int) da_nil))) (da_cons de_int da_nil)))))))⟩⟩
theorem sc__law_draw : FnScope ["source", "count", "digit", "mixed"] ["source", "count"] (defScope st__law_draw) := ⟨rfl, rfl, rfl, by decide +kernel, rfl, by decide +kernel, by decide +kernel⟩
theorem i__law_draw {f : Addr} {fd : FuncData} (b : Bf mg)
  (hS : sysB K = true)
  (gl : mg "_law_draw" = some (.ref f))
  (F : FunD K "_law_draw" "_law_draw" (defArgs st__law_draw) (defBody st__law_draw) (defScope st__law_draw) [] [] f fd) : FnI P w K mg "_law_draw" 1 ["source", "count"] [.io, .ln] d__law_draw f fd := by
  have bd : Binds K fd ["source", "count"] [] := F.bindsN fun _ _ _ _ _ _ us hl => match us, hl with | [_, _], _ => rfl
  have nd := sc__law_draw.nd
  exact ⟨gl, F.kp, bd, fun base => fnd_den (Sb := [2, 3, 3]) F sc__law_draw rfl (io_ok (by decide)) fun cd A out s0 H0 E room hG tk => ⟨_, (dss_cons (ds_if (dt_cmp op_gt s_gt (de_ix (by exact room_1 room) (de_var 0) de_int) de_int) (dss_cons (ds_set 2 (de_op op_mod s_mod (de_ct call_int1 s_int (by rfl) b.int bb_int (da_consN (de_ix (by exact room_1 room) (de_var 0) de_int) da_nil)) (de_var 1)) nd)
    (dss_cons (ds_setI 0 (by exact room_1 room) de_int (de_op op_fdivW s_div (de_ix (by exact room_1 room) (de_var 0) de_int) (de_var 1)))
    (dss_one (ds_ret (de_var 2))))) dss_nil)
    (dss_cons (ds_setI 0 (by exact room_1 room) de_int (de_op o_add s_add (de_ix (by exact room_1 room) (de_var 0) de_int) de_int))
    (dss_cons (ds_set 3 (de_op op_mod s_mod (de_ct call_int1 s_int (by rfl) b.int bb_int (da_consN (de_op o_pow s_pow (de_op o_add s_add (de_ix (by exact room_1 room) (de_var 0) de_int) (de_op o_mul s_mul de_int (de_ix (by exact room_1 room) (de_var 0) de_int))) de_int) da_nil)) (de_op o_add s_add (de_op o_pow s_pow de_int de_int) de_int)) nd)
    (dss_cons (ds_set 3 (de_op op_mod s_mod (de_ct call_int1 s_int (by rfl) b.int bb_int (da_consN (de_op o_pow s_pow (de_op o_add s_add (de_op o_mul s_mul (de_var 3) (de_ix (by exact room_1 room) (de_var 0) de_int)) de_int) de_int) da_nil)) (de_op o_add s_add (de_op o_pow s_pow de_int de_int) de_int)) nd)
    (dss_one (ds_ret (de_op op_mod s_mod (de_ct call_int1 s_int (by rfl) b.int bb_int (da_consN (de_op op_fdivW s_div (de_var 3) de_int) da_nil)) (de_var 1))))))))⟩⟩
theorem sc__law_odd : FnScope ["spot", "found"] ["spot"] (defScope st__law_odd) := ⟨rfl, rfl, rfl, by decide +kernel, rfl, by decide +kernel, by decide +kernel⟩
theorem i__law_odd {f : Addr} {fd : FuncData} (b : Bf mg)
  (hS : sysB K = true)
  (gl : mg "_law_odd" = some (.ref f))
  (F : FunD K "_law_odd" "_law_odd" (defArgs st__law_odd) (defBody st__law_odd) (defScope st__law_odd) [] [] f fd) : FnI P w K mg "_law_odd" 1 ["spot"] [.ln] d__law_odd f fd := by
  have bd : Binds K fd ["spot"] [] := F.bindsN fun _ _ _ _ _ _ us hl => match us, hl with | [_], _ => rfl
  have nd := sc__law_odd.nd
  exact ⟨gl, F.kp, bd, fun base => fnd_den (Sb := [1, 0, 1]) F sc__law_odd rfl (io_ok (by decide)) fun cd A out s0 H0 E room hG tk => ⟨_, (dss_cons (ds_set 1 de_int nd)
    (dss_cons (ds_while fuel (passes_of (by rfl)) (dt_cmp op_gt s_gt (de_var 0) de_int) (dss_cons (ds_set 0 (de_op op_and s_and (de_var 0) (de_op op_sub s_sub (de_var 0) de_int)) nd)
    (dss_one (ds_set 1 (de_op op_sub s_sub de_int (de_var 1)) nd))))
    (dss_one (ds_ret (de_var 1)))))⟩⟩
theorem sc__law_spots : FnScope ["size"] ["size"] (defScope st__law_spots) := ⟨rfl, rfl, rfl, by decide +kernel, rfl, by decide +kernel, by decide +kernel⟩
theorem i__law_spots {f : Addr} {fd : FuncData} (b : Bf mg)
  (hS : sysB K = true)
  (gl : mg "_law_spots" = some (.ref f))
  (F : FunD K "_law_spots" "_law_spots" (defArgs st__law_spots) (defBody st__law_spots) (defScope st__law_spots) [] [] f fd) : FnI P w K mg "_law_spots" 1 ["size"] [.ln] d__law_spots f fd := by
  have bd : Binds K fd ["size"] [] := F.bindsN fun _ _ _ _ _ _ us hl => match us, hl with | [_], _ => rfl
  have nd := sc__law_spots.nd
  exact ⟨gl, F.kp, bd, fun base => fnd_den (Sb := []) F sc__law_spots rfl (io_ok (by decide)) fun cd A out s0 H0 E room hG tk => ⟨_, (dss_one (ds_ret (de_listRg (by rfl) (by rfl) b.list (dr_1 (by rfl) b.range (de_op op_shlW s_shl de_int (de_var 0))))))⟩⟩
theorem sc__law_agreeing : FnScope ["lists_here", "pairs", "found", "spot", "goal", "line"] ["lists_here", "pairs"] (defScope st__law_agreeing) := ⟨rfl, rfl, rfl, by decide +kernel, rfl, by decide +kernel, by decide +kernel⟩
theorem i__law_agreeing {f : Addr} {fd : FuncData} (b : Bf mg)
  (hS : sysB K = true)
  (gl : mg "_law_agreeing" = some (.ref f))
  (F : FunD K "_law_agreeing" "_law_agreeing" (defArgs st__law_agreeing) (defBody st__law_agreeing) (defScope st__law_agreeing) [] [] f fd) : FnI P w K mg "_law_agreeing" 1 ["lists_here", "pairs"] [.fz, .ln] d__law_agreeing f fd := by
  have bd : Binds K fd ["lists_here", "pairs"] [] := F.bindsN fun _ _ _ _ _ _ us hl => match us, hl with | [_, _], _ => rfl
  have nd := sc__law_agreeing.nd
  exact ⟨gl, F.kp, bd, fun base => fnd_den (Sb := [2, 3, 4, 2]) F sc__law_agreeing rfl (io_ok (by decide)) fun cd A out s0 H0 E room hG tk => ⟨_, (dss_cons (ds_set 2 (de_var 0) nd)
    (dss_cons (ds_lend 1 (ds_for (passes_of (by rfl)) (by rfl) (di_ln 1) (dg_tup (by rfl) (dgn_cons 3 nd (dgn_cons 4 nd dgn_nil))) (dss_one (ds_setLcX (own := [("line", 5)]) (by rfl) nd (by rfl) (by rfl) (by rfl) (di_any (de_var 2)) (blkOk_by (N := ["lists_here", "pairs", "found", "spot", "goal", "line"]) (sc := defScope st__law_agreeing) (by decide +kernel)) (fun _ _ _ _ _ => ⟨_, (dg_name 5 nd)⟩) (fun _ _ _ _ _ => ⟨_, (dif_one (dt_cmp (op_eq2 (by exact room_64 room)) s_eq2 (de_ix (by exact room_1 room) (de_var 5) (de_var 3)) (de_var 4)))⟩) (fun _ _ _ _ _ => ⟨_, (de_var 5)⟩)))))
    (dss_one (ds_ret (de_var 2)))))⟩⟩
theorem sc_need_bits : FnScope ["bits"] ["bits"] (defScope st_need_bits) := ⟨rfl, rfl, rfl, by decide +kernel, rfl, by decide +kernel, by decide +kernel⟩
theorem i_need_bits {f : Addr} {fd : FuncData} (b : Bf mg)
  (hS : sysB K = true)
  (gl : mg "need_bits" = some (.ref f))
  (F : FunD K "need_bits" "need_bits" (defArgs st_need_bits) (defBody st_need_bits) (defScope st_need_bits) [] [] f fd)
  (k_MOST_BITS : ∃ t, mg "MOST_BITS" = some (.int 60 t))
  {f_is_integer : Addr} {fd_is_integer : FuncData} (h_is_integer : FnI P w K mg "is_integer" 1 ["value", "low", "high"] [.ln, .fz, .fz] d_is_integer f_is_integer fd_is_integer)
  (xc_InvalidBits : ExF K mg "InvalidBits") : FnI P w K mg "need_bits" 2 ["bits"] [.ln] d_need_bits f fd := by
  have bd : Binds K fd ["bits"] [] := F.bindsN fun _ _ _ _ _ _ us hl => match us, hl with | [_], _ => rfl
  have nd := sc_need_bits.nd
  exact ⟨gl, F.kp, bd, fun base => fnd_den (Sb := []) F sc_need_bits rfl (io_ok (by decide)) fun cd A out s0 H0 E room hG tk => ⟨_, (dss_one (ds_if (dt_not (dt_truth (de_callI h_is_integer room (by decide) hG tk (by rfl) (da_cons (de_var 0) (da_cons de_int (da_cons (de_globI (by rfl) k_MOST_BITS) da_nil)))))) (dss_one (ds_raise xc_InvalidBits (by rfl) tk (by rfl))) dss_nil))⟩⟩
theorem sc_is_place : FnScope ["bits", "value"] ["bits", "value"] (defScope st_is_place) := ⟨rfl, rfl, rfl, by decide +kernel, rfl, by decide +kernel, by decide +kernel⟩
theorem i_is_place {f : Addr} {fd : FuncData} (b : Bf mg)
  (hS : sysB K = true)
  (gl : mg "is_place" = some (.ref f))
  (F : FunD K "is_place" "is_place" (defArgs st_is_place) (defBody st_is_place) (defScope st_is_place) [] [] f fd)
  {f_is_integer : Addr} {fd_is_integer : FuncData} (h_is_integer : FnI P w K mg "is_integer" 1 ["value", "low", "high"] [.ln, .fz, .fz] d_is_integer f_is_integer fd_is_integer) : FnI P w K mg "is_place" 2 ["bits", "value"] [.ln, .ln] d_is_place f fd := by
  have bd : Binds K fd ["bits", "value"] [] := F.bindsN fun _ _ _ _ _ _ us hl => match us, hl with | [_, _], _ => rfl
  have nd := sc_is_place.nd
  exact ⟨gl, F.kp, bd, fun base => fnd_den (Sb := []) F sc_is_place rfl (io_ok (by decide)) fun cd A out s0 H0 E room hG tk => ⟨_, (dss_one (ds_ret (de_callI h_is_integer room (by decide) hG tk (by rfl) (da_cons (de_var 1) (da_cons de_int (da_cons (de_op op_sub s_sub (de_op op_shlW s_shl de_int (de_var 0)) de_int) da_nil))))))⟩⟩
theorem sc_eliminated : FnScope ["masks", "leads", "empty", "index", "mask", "left", "picks"] ["masks"] (defScope st_eliminated) := ⟨rfl, rfl, rfl, by decide +kernel, rfl, by decide +kernel, by decide +kernel⟩
theorem i_eliminated {f : Addr} {fd : FuncData} (b : Bf mg)
  (hS : sysB K = true)
  (gl : mg "eliminated" = some (.ref f))
  (F : FunD K "eliminated" "eliminated" (defArgs st_eliminated) (defBody st_eliminated) (defScope st_eliminated) [] [] f fd)
  {f_reduced : Addr} {fd_reduced : FuncData} (h_reduced : FnI P w K mg "reduced" 1 ["leads", "mask", "picks"] [.ln, .fz, .fz] d_reduced f_reduced fd_reduced) : FnI P w K mg "eliminated" 2 ["masks"] [.ln] d_eliminated f fd := by
  have bd : Binds K fd ["masks"] [] := F.bindsN fun _ _ _ _ _ _ us hl => match us, hl with | [_], _ => rfl
  have nd := sc_eliminated.nd
  exact ⟨gl, F.kp, bd, fun base => fnd_den (Sb := [1, 2, 3, 4, 5, 6]) F sc_eliminated rfl (io_ok (by decide)) fun cd A out s0 H0 E room hG tk => ⟨_, (dss_cons (ds_par (by rfl) nd (by rfl) (by rfl) (by decide) (by rfl) (by rfl) (da_cons de_dnew (da_cons (de_lst da_nil) da_nil)) (by rfl))
    (dss_cons (ds_lend 0 (ds_for (passes_of (by rfl)) (by rfl) (di_enumLn 0 (by rfl) b.enumerate) (dg_tup (by rfl) (dgn_cons 3 nd (dgn_cons 4 nd dgn_nil))) (dss_cons (ds_asg (dg_tup (by rfl) (dgn_cons 5 nd (dgn_cons 6 nd dgn_nil))) (de_callI h_reduced room (by decide) hG tk (by rfl) (da_cons (de_var 1) (da_cons (de_var 4) (da_cons (de_op op_shlW s_shl de_int (de_var 3)) da_nil)))))
    (dss_one (ds_if (dt_cmp (op_eq2 (by exact room_64 room)) s_eq2 (de_var 5) de_int) (dss_one (ds_expr (de_bm 2 PySem.F.plainAttrs_list PySem.F.slot_list_append PySem.F.type_list_append mt_append ty_lst s_append (da_cons (de_var 6) da_nil)))) (dss_one (ds_setI 1 (by exact room_1 room) (de_op op_sub s_sub (de_bits (de_op op_and s_and (de_var 5) (de_un un_neg s_neg (de_var 5)))) de_int) (de_tup (da_cons (de_var 5) (da_cons (de_var 6) da_nil))))))))))
    (dss_one (ds_ret (de_tup (da_cons (de_var 1) (da_cons (de_var 2) da_nil)))))))⟩⟩
theorem sc_moved : FnScope ["mapping", "place", "rows", "offset", "bit", "row"] ["mapping", "place"] (defScope st_moved) := ⟨rfl, rfl, rfl, by decide +kernel, rfl, by decide +kernel, by decide +kernel⟩
theorem i_moved {f : Addr} {fd : FuncData} (b : Bf mg)
  (hS : sysB K = true)
  (gl : mg "moved" = some (.ref f))
  (F : FunD K "moved" "moved" (defArgs st_moved) (defBody st_moved) (defScope st_moved) [] [] f fd)
  {f_parity : Addr} {fd_parity : FuncData} (h_parity : FnI P w K mg "parity" 1 ["number"] [.fz] d_parity f_parity fd_parity) : FnI P w K mg "moved" 2 ["mapping", "place"] [.fz, .ln] d_moved f fd := by
  have bd : Binds K fd ["mapping", "place"] [] := F.bindsN fun _ _ _ _ _ _ us hl => match us, hl with | [_, _], _ => rfl
  have nd := sc_moved.nd
  exact ⟨gl, F.kp, bd, fun base => fnd_den (Sb := [2, 3]) F sc_moved rfl (io_ok (by decide)) fun cd A out s0 H0 E room hG tk => ⟨_, (dss_cons (ds_asg (dg_tup (by rfl) (dgn_cons 2 nd (dgn_cons 3 nd dgn_nil))) (de_var 0))
    (dss_one (ds_ret (de_op op_xor s_xor (de_var 3) (de_cb (cr_sum (by rfl)) s_sum (by rfl) b.sum bb_sum (da_consN (de_lend 2 (de_lcX (own := [("bit", 4), ("row", 5)]) (by rfl) nd (di_enumLn 2 (by rfl) b.enumerate) (blkOk_by (N := ["mapping", "place", "rows", "offset", "bit", "row"]) (sc := defScope st_moved) (by decide +kernel)) (fun _ _ _ _ _ => ⟨_, (dg_tup (by rfl) (dgn_cons 4 nd (dgn_cons 5 nd dgn_nil)))⟩) (fun _ _ _ _ _ => ⟨_, dif_nil⟩) (fun _ _ _ _ _ => ⟨_, (de_op op_shlW s_shl (de_callI h_parity room (by decide) hG takes0 (by rfl) (da_cons (de_op op_and s_and (de_var 5) (de_var 1)) da_nil)) (de_var 4))⟩))) da_nil))))))⟩⟩
theorem sc_columns_of : FnScope ["rows", "at", "bit", "row"] ["rows"] (defScope st_columns_of) := ⟨rfl, rfl, rfl, by decide +kernel, rfl, by decide +kernel, by decide +kernel⟩
theorem i_columns_of {f : Addr} {fd : FuncData} (b : Bf mg)
  (hS : sysB K = true)
  (gl : mg "columns_of" = some (.ref f))
  (F : FunD K "columns_of" "columns_of" (defArgs st_columns_of) (defBody st_columns_of) (defScope st_columns_of) [] [] f fd)
  {f_mask_of : Addr} {fd_mask_of : FuncData} (h_mask_of : FnI P w K mg "mask_of" 1 ["some"] [.ln] d_mask_of f_mask_of fd_mask_of) : FnI P w K mg "columns_of" 2 ["rows"] [.ln] d_columns_of f fd := by
  have bd : Binds K fd ["rows"] [] := F.bindsN fun _ _ _ _ _ _ us hl => match us, hl with | [_], _ => rfl
  have nd := sc_columns_of.nd
  exact ⟨gl, F.kp, bd, fun base => fnd_den (Sb := []) F sc_columns_of rfl (io_ok (by decide)) fun cd A out s0 H0 E room hG tk => ⟨_, (dss_one (ds_ret (de_lcX (own := [("at", 1)]) (by rfl) nd (di_rng1 (by rfl) b.range (da_cons (de_cb c_len s_len (by rfl) b.len bb_len (da_consN (de_var 0) da_nil)) da_nil)) (blkOk_by (N := ["rows", "at", "bit", "row"]) (sc := defScope st_columns_of) (by decide +kernel)) (fun _ _ _ _ _ => ⟨_, (dg_name 1 nd)⟩) (fun _ _ _ _ _ => ⟨_, dif_nil⟩) (fun _ _ _ _ _ => ⟨_, (de_callI h_mask_of room (by decide) hG takes0 (by rfl) (da_cons (de_lend 0 (de_lcX (own := [("bit", 2), ("row", 3)]) (by rfl) nd (di_enumLn 0 (by rfl) b.enumerate) (by exact blkOk_by (by with_unfolding_all rfl)) (fun _ _ _ _ _ => ⟨_, (dg_tup (by rfl) (dgn_cons 2 nd (dgn_cons 3 nd dgn_nil)))⟩) (fun _ _ _ _ _ => ⟨_, (dif_one (dt_cmp (op_eq2 (by exact room_64 room)) s_eq2 (de_op op_and s_and (de_op op_shr s_shr (de_var 3) (de_var 1)) de_int) de_int))⟩) (fun _ _ _ _ _ => ⟨_, (de_var 2)⟩))) da_nil))⟩))))⟩⟩
theorem sc_begins_of : FnScope ["bits", "ways", "place", "end"] ["bits", "ways"] (defScope st_begins_of) := ⟨rfl, rfl, rfl, by decide +kernel, rfl, by decide +kernel, by decide +kernel⟩
theorem i_begins_of {f : Addr} {fd : FuncData} (b : Bf mg)
  (hS : sysB K = true)
  (gl : mg "begins_of" = some (.ref f))
  (F : FunD K "begins_of" "begins_of" (defArgs st_begins_of) (defBody st_begins_of) (defScope st_begins_of) [] [] f fd)
  {f_marked : Addr} {fd_marked : FuncData} (h_marked : FnI P w K mg "marked" 1 ["bits", "places"] [.ln, .ln] d_marked f_marked fd_marked) : FnI P w K mg "begins_of" 2 ["bits", "ways"] [.ln, .ln] d_begins_of f fd := by
  have bd : Binds K fd ["bits", "ways"] [] := F.bindsN fun _ _ _ _ _ _ us hl => match us, hl with | [_, _], _ => rfl
  have nd := sc_begins_of.nd
  exact ⟨gl, F.kp, bd, fun base => fnd_den (Sb := []) F sc_begins_of rfl (io_ok (by decide)) fun cd A out s0 H0 E room hG tk => ⟨_, (dss_one (ds_ret (de_callI h_marked room (by decide) hG tk (by rfl) (da_cons (de_var 0) (da_cons (de_lend 1 (de_lcX (own := [("place", 2), ("end", 3)]) (by rfl) nd (di_ln 1) (blkOk_by (N := ["bits", "ways", "place", "end"]) (sc := defScope st_begins_of) (by decide +kernel)) (fun _ _ _ _ _ => ⟨_, (dg_tup (by rfl) (dgn_cons 2 nd (dgn_cons 3 nd dgn_nil)))⟩) (fun _ _ _ _ _ => ⟨_, dif_nil⟩) (fun _ _ _ _ _ => ⟨_, (de_var 2)⟩))) da_nil)))))⟩⟩
theorem sc_ends_of : FnScope ["bits", "ways", "place", "end"] ["bits", "ways"] (defScope st_ends_of) := ⟨rfl, rfl, rfl, by decide +kernel, rfl, by decide +kernel, by decide +kernel⟩
theorem i_ends_of {f : Addr} {fd : FuncData} (b : Bf mg)
  (hS : sysB K = true)
  (gl : mg "ends_of" = some (.ref f))
  (F : FunD K "ends_of" "ends_of" (defArgs st_ends_of) (defBody st_ends_of) (defScope st_ends_of) [] [] f fd)
  {f_marked : Addr} {fd_marked : FuncData} (h_marked : FnI P w K mg "marked" 1 ["bits", "places"] [.ln, .ln] d_marked f_marked fd_marked) : FnI P w K mg "ends_of" 2 ["bits", "ways"] [.ln, .ln] d_ends_of f fd := by
  have bd : Binds K fd ["bits", "ways"] [] := F.bindsN fun _ _ _ _ _ _ us hl => match us, hl with | [_, _], _ => rfl
  have nd := sc_ends_of.nd
  exact ⟨gl, F.kp, bd, fun base => fnd_den (Sb := []) F sc_ends_of rfl (io_ok (by decide)) fun cd A out s0 H0 E room hG tk => ⟨_, (dss_one (ds_ret (de_callI h_marked room (by decide) hG tk (by rfl) (da_cons (de_var 0) (da_cons (de_lend 1 (de_lcX (own := [("place", 2), ("end", 3)]) (by rfl) nd (di_ln 1) (blkOk_by (N := ["bits", "ways", "place", "end"]) (sc := defScope st_ends_of) (by decide +kernel)) (fun _ _ _ _ _ => ⟨_, (dg_tup (by rfl) (dgn_cons 2 nd (dgn_cons 3 nd dgn_nil)))⟩) (fun _ _ _ _ _ => ⟨_, dif_nil⟩) (fun _ _ _ _ _ => ⟨_, (de_var 3)⟩))) da_nil)))))⟩⟩
theorem sc__law_goal : FnScope ["plan", "spot", "rows", "offset", "found", "k", "row"] ["plan", "spot"] (defScope st__law_goal) := ⟨rfl, rfl, rfl, by decide +kernel, rfl, by decide +kernel, by decide +kernel⟩
theorem i__law_goal {f : Addr} {fd : FuncData} (b : Bf mg)
  (hS : sysB K = true)
  (gl : mg "_law_goal" = some (.ref f))
  (F : FunD K "_law_goal" "_law_goal" (defArgs st__law_goal) (defBody st__law_goal) (defScope st__law_goal) [] [] f fd)
  {f__law_odd : Addr} {fd__law_odd : FuncData} (h__law_odd : FnI P w K mg "_law_odd" 1 ["spot"] [.ln] d__law_odd f__law_odd fd__law_odd) : FnI P w K mg "_law_goal" 2 ["plan", "spot"] [.fz, .ln] d__law_goal f fd := by
  have bd : Binds K fd ["plan", "spot"] [] := F.bindsN fun _ _ _ _ _ _ us hl => match us, hl with | [_, _], _ => rfl
  have nd := sc__law_goal.nd
  exact ⟨gl, F.kp, bd, fun base => fnd_den (Sb := [2, 3, 4, 5, 6, 4]) F sc__law_goal rfl (io_ok (by decide)) fun cd A out s0 H0 E room hG tk => ⟨_, (dss_cons (ds_asg (dg_tup (by rfl) (dgn_cons 2 nd (dgn_cons 3 nd dgn_nil))) (de_var 0))
    (dss_cons (ds_set 4 (de_var 3) nd)
    (dss_cons (ds_lend 2 (ds_for (passes_of (by rfl)) (by rfl) (di_enumLn 2 (by rfl) b.enumerate) (dg_tup (by rfl) (dgn_cons 5 nd (dgn_cons 6 nd dgn_nil))) (dss_one (ds_set 4 (de_op op_xor s_xor (de_var 4) (de_op op_shlW s_shl (de_callI h__law_odd room (by decide) hG tk (by rfl) (da_cons (de_op op_and s_and (de_var 6) (de_var 1)) da_nil)) (de_var 5))) nd))))
    (dss_one (ds_ret (de_var 4))))))⟩⟩
theorem sc__law_every : FnScope ["size", "lines", "k", "longer", "row", "bit_here", "found", "line", "spot", "one", "two", "offset"] ["size"] (defScope st__law_every) := ⟨rfl, rfl, rfl, by decide +kernel, rfl, by decide +kernel, by decide +kernel⟩
theorem i__law_every {f : Addr} {fd : FuncData} (b : Bf mg)
  (hS : sysB K = true)
  (gl : mg "_law_every" = some (.ref f))
  (F : FunD K "_law_every" "_law_every" (defArgs st__law_every) (defBody st__law_every) (defScope st__law_every) [] [] f fd)
  {f__law_odd : Addr} {fd__law_odd : FuncData} (h__law_odd : FnI P w K mg "_law_odd" 1 ["spot"] [.ln] d__law_odd f__law_odd fd__law_odd) : FnI P w K mg "_law_every" 2 ["size"] [.ln] d__law_every f fd := by
  have bd : Binds K fd ["size"] [] := F.bindsN fun _ _ _ _ _ _ us hl => match us, hl with | [_], _ => rfl
  have nd := sc__law_every.nd
  exact ⟨gl, F.kp, bd, fun base => fnd_den (Sb := [1, 2, 3, 4, 5, 3, 1, 6, 7, 6]) F sc__law_every rfl (io_ok (by decide)) fun cd A out s0 H0 E room hG tk => ⟨_, (dss_cons (ds_set 1 (de_lst (da_cons (de_op o_mul s_mul (de_lst (da_cons de_int da_nil)) (de_op op_shlW s_shl de_int (de_var 0))) da_nil)) nd)
    (dss_cons (ds_for (passes_of (by rfl)) (by rfl) (di_rng1 (by rfl) b.range (da_cons (de_var 0) da_nil)) (dg_name 2 nd) (dss_cons (ds_set 3 (de_lst da_nil) nd)
    (dss_cons (ds_for (passes_of (by rfl)) (by rfl) (di_rng2 (by rfl) b.range (da_cons de_int (da_cons (de_op op_shlW s_shl de_int (de_var 0)) da_nil))) (dg_name 4 nd) (dss_cons (ds_set 5 (de_lcX (own := [("spot", 8)]) (by rfl) nd (di_rng1 (by rfl) b.range (da_cons (de_op op_shlW s_shl de_int (de_var 0)) da_nil)) (blkOk_by (N := ["size", "lines", "k", "longer", "row", "bit_here", "found", "line", "spot", "one", "two", "offset"]) (sc := defScope st__law_every) (by decide +kernel)) (fun _ _ _ _ _ => ⟨_, (dg_name 8 nd)⟩) (fun _ _ _ _ _ => ⟨_, dif_nil⟩) (fun _ _ _ _ _ => ⟨_, (de_op op_shlW s_shl (de_callI h__law_odd room (by decide) hG takes0 (by rfl) (da_cons (de_op op_and s_and (de_var 4) (de_var 8)) da_nil)) (de_var 2))⟩)) nd)
    (dss_one (ds_set 3 (de_op o_add s_add (de_var 3) (de_lend 1 (de_lcX (own := [("line", 7)]) (by rfl) nd (di_ln 1) (blkOk_by (N := ["size", "lines", "k", "longer", "row", "bit_here", "found", "line", "spot", "one", "two", "offset"]) (sc := defScope st__law_every) (by decide +kernel)) (fun _ _ _ _ _ => ⟨_, (dg_name 7 nd)⟩) (fun _ _ _ _ _ => ⟨_, dif_nil⟩) (fun _ _ _ _ _ => ⟨_, (de_lcX (own := [("one", 9), ("two", 10)]) (by rfl) nd (di_zip (by rfl) b.zip (da_cons (de_var 7) (da_cons (de_var 5) da_nil))) (by exact blkOk_by (by with_unfolding_all rfl)) (fun _ _ _ _ _ => ⟨_, (dg_tup (by rfl) (dgn_cons 9 nd (dgn_cons 10 nd dgn_nil)))⟩) (fun _ _ _ _ _ => ⟨_, dif_nil⟩) (fun _ _ _ _ _ => ⟨_, (de_op op_or s_or (de_var 9) (de_var 10))⟩))⟩)))) nd))))
    (dss_one (ds_lend 3 (ds_setLcX (own := [("line", 7)]) (by rfl) nd (by rfl) (by rfl) (by rfl) (di_ln 3) (blkOk_by (N := ["size", "lines", "k", "longer", "row", "bit_here", "found", "line", "spot", "one", "two", "offset"]) (sc := defScope st__law_every) (by decide +kernel)) (fun _ _ _ _ _ => ⟨_, (dg_name 7 nd)⟩) (fun _ _ _ _ _ => ⟨_, (dif_one (dt_cmp (op_eq2 (by exact room_64 room)) s_eq2 (de_lenSet rfl (by rfl) b.len (by rfl) b.set (de_var 7)) (de_op op_shlW s_shl de_int (de_var 2))))⟩) (fun _ _ _ _ _ => ⟨_, (de_var 7)⟩)))))))
    (dss_cons (ds_set 6 (de_lst da_nil) nd)
    (dss_cons (ds_lend 1 (ds_for (passes_of (by rfl)) (by rfl) (di_ln 1) (dg_name 7 nd) (dss_one (ds_set 6 (de_op o_add s_add (de_var 6) (de_lcX (own := [("offset", 11)]) (by rfl) nd (di_rng1 (by rfl) b.range (da_cons (de_op op_shlW s_shl de_int (de_var 0)) da_nil)) (blkOk_by (N := ["size", "lines", "k", "longer", "row", "bit_here", "found", "line", "spot", "one", "two", "offset"]) (sc := defScope st__law_every) (by decide +kernel)) (fun _ _ _ _ _ => ⟨_, (dg_name 11 nd)⟩) (fun _ _ _ _ _ => ⟨_, dif_nil⟩) (fun _ _ _ _ _ => ⟨_, (de_lend 7 (de_lcX (own := [("one", 9)]) (by rfl) nd (di_ln 7) (by exact blkOk_by (by with_unfolding_all rfl)) (fun _ _ _ _ _ => ⟨_, (dg_name 9 nd)⟩) (fun _ _ _ _ _ => ⟨_, dif_nil⟩) (fun _ _ _ _ _ => ⟨_, (de_op op_xor s_xor (de_var 9) (de_var 11))⟩)))⟩))) nd))))
    (dss_one (ds_ret (de_var 6)))))))⟩⟩
theorem sc__law_pairs : FnScope ["source", "size", "many", "lists_here", "line", "found", "turn", "spot", "goal"] ["source", "size", "many", "lists_here"] (defScope st__law_pairs) := ⟨rfl, rfl, rfl, by decide +kernel, rfl, by decide +kernel, by decide +kernel⟩
theorem i__law_pairs {f : Addr} {fd : FuncData} (b : Bf mg)
  (hS : sysB K = true)
  (gl : mg "_law_pairs" = some (.ref f))
  (F : FunD K "_law_pairs" "_law_pairs" (defArgs st__law_pairs) (defBody st__law_pairs) (defScope st__law_pairs) [] [] f fd)
  {f__law_draw : Addr} {fd__law_draw : FuncData} (h__law_draw : FnI P w K mg "_law_draw" 1 ["source", "count"] [.io, .ln] d__law_draw f__law_draw fd__law_draw) : FnI P w K mg "_law_pairs" 2 ["source", "size", "many", "lists_here"] [.io, .ln, .ln, .ln] d__law_pairs_k52 f fd := by
  have bd : Binds K fd ["source", "size", "many", "lists_here"] [] := F.bindsN fun _ _ _ _ _ _ us hl => match us, hl with | [_, _, _, _], _ => rfl
  have nd := sc__law_pairs.nd
  exact ⟨gl, F.kp, bd, fun base => fnd_den (Sb := [4, 5, 6, 7, 8]) F sc__law_pairs rfl (io_ok (by decide)) fun cd A out s0 H0 E room hG tk => ⟨_, (dss_cons (ds_par (by rfl) nd (by rfl) (by rfl) (by decide) (by rfl) (by rfl) (da_cons (de_ix (by exact room_1 room) (de_var 3) (de_callI h__law_draw room (by decide) hG tk (by rfl) (da_cons (de_var 0) (da_cons (de_cb c_len s_len (by rfl) b.len bb_len (da_consN (de_var 3) da_nil)) da_nil)))) (da_cons (de_lst da_nil) da_nil)) (by rfl))
    (dss_cons (ds_for (passes_of (by rfl)) (by rfl) (di_rng1 (by rfl) b.range (da_cons (de_var 2) da_nil)) (dg_name 6 nd) (dss_cons (ds_set 7 (de_callI h__law_draw room (by decide) hG tk (by rfl) (da_cons (de_var 0) (da_cons (de_op op_shlW s_shl de_int (de_var 1)) da_nil))) nd)
    (dss_cons (ds_set 8 (de_if (dt_cmp op_gt s_gt (de_callI h__law_draw room (by decide) hG tk (by rfl) (da_cons (de_var 0) (da_cons de_int da_nil))) de_int) (de_ix (by exact room_1 room) (de_var 4) (de_var 7)) (de_callI h__law_draw room (by decide) hG tk (by rfl) (da_cons (de_var 0) (da_cons (de_op op_shlW s_shl de_int (de_var 1)) da_nil)))) nd)
    (dss_one (ds_expr (de_bm 5 PySem.F.plainAttrs_list PySem.F.slot_list_append PySem.F.type_list_append mt_append ty_lst s_append (da_cons (de_tup (da_cons (de_var 7) (da_cons (de_var 8) da_nil))) da_nil)))))))
    (dss_one (ds_ret (de_var 5)))))⟩⟩
theorem sc_need_place : FnScope ["bits", "value"] ["bits", "value"] (defScope st_need_place) := ⟨rfl, rfl, rfl, by decide +kernel, rfl, by decide +kernel, by decide +kernel⟩
theorem i_need_place {f : Addr} {fd : FuncData} (b : Bf mg)
  (hS : sysB K = true)
  (gl : mg "need_place" = some (.ref f))
  (F : FunD K "need_place" "need_place" (defArgs st_need_place) (defBody st_need_place) (defScope st_need_place) [] [] f fd)
  {f_is_place : Addr} {fd_is_place : FuncData} (h_is_place : FnI P w K mg "is_place" 2 ["bits", "value"] [.ln, .ln] d_is_place f_is_place fd_is_place)
  (xc_InvalidPlace : ExF K mg "InvalidPlace") : FnI P w K mg "need_place" 3 ["bits", "value"] [.ln, .ln] d_need_place f fd := by
  have bd : Binds K fd ["bits", "value"] [] := F.bindsN fun _ _ _ _ _ _ us hl => match us, hl with | [_, _], _ => rfl
  have nd := sc_need_place.nd
  exact ⟨gl, F.kp, bd, fun base => fnd_den (Sb := []) F sc_need_place rfl (io_ok (by decide)) fun cd A out s0 H0 E room hG tk => ⟨_, (dss_one (ds_if (dt_not (dt_truth (de_callI h_is_place room (by decide) hG tk (by rfl) (da_cons (de_var 0) (da_cons (de_var 1) da_nil))))) (dss_one (ds_raise xc_InvalidPlace (by rfl) tk (by rfl))) dss_nil))⟩⟩
theorem sc_rank_of : FnScope ["masks"] ["masks"] (defScope st_rank_of) := ⟨rfl, rfl, rfl, by decide +kernel, rfl, by decide +kernel, by decide +kernel⟩
theorem i_rank_of {f : Addr} {fd : FuncData} (b : Bf mg)
  (hS : sysB K = true)
  (gl : mg "rank_of" = some (.ref f))
  (F : FunD K "rank_of" "rank_of" (defArgs st_rank_of) (defBody st_rank_of) (defScope st_rank_of) [] [] f fd)
  {f_eliminated : Addr} {fd_eliminated : FuncData} (h_eliminated : FnI P w K mg "eliminated" 2 ["masks"] [.ln] d_eliminated f_eliminated fd_eliminated) : FnI P w K mg "rank_of" 3 ["masks"] [.ln] d_rank_of f fd := by
  have bd : Binds K fd ["masks"] [] := F.bindsN fun _ _ _ _ _ _ us hl => match us, hl with | [_], _ => rfl
  have nd := sc_rank_of.nd
  exact ⟨gl, F.kp, bd, fun base => fnd_den (Sb := []) F sc_rank_of rfl (io_ok (by decide)) fun cd A out s0 H0 E room hG tk => ⟨_, (dss_one (ds_ret (de_cb c_len s_len (by rfl) b.len bb_len (da_consN (de_ix (by exact room_1 room) (de_callI h_eliminated room (by decide) hG tk (by rfl) (da_cons (de_var 0) da_nil)) de_int) da_nil))))⟩⟩
theorem sc_mapping_fault : FnScope ["value", "rows", "offset", "leads", "index", "row", "left"] ["value"] (defScope st_mapping_fault) := ⟨rfl, rfl, rfl, by decide +kernel, rfl, by decide +kernel, by decide +kernel⟩
theorem i_mapping_fault {f : Addr} {fd : FuncData} (b : Bf mg)
  (hS : sysB K = true)
  (gl : mg "mapping_fault" = some (.ref f))
  (F : FunD K "mapping_fault" "mapping_fault" (defArgs st_mapping_fault) (defBody st_mapping_fault) (defScope st_mapping_fault) [] [] f fd)
  (k_MOST_BITS : ∃ t, mg "MOST_BITS" = some (.int 60 t))
  {f_is_place : Addr} {fd_is_place : FuncData} (h_is_place : FnI P w K mg "is_place" 2 ["bits", "value"] [.ln, .ln] d_is_place f_is_place fd_is_place)
  {f_reduced : Addr} {fd_reduced : FuncData} (h_reduced : FnI P w K mg "reduced" 1 ["leads", "mask", "picks"] [.ln, .fz, .fz] d_reduced f_reduced fd_reduced) : FnI P w K mg "mapping_fault" 3 ["value"] [.fz] d_mapping_fault f fd := by
  have bd : Binds K fd ["value"] [] := F.bindsN fun _ _ _ _ _ _ us hl => match us, hl with | [_], _ => rfl
  have nd := sc_mapping_fault.nd
  exact ⟨gl, F.kp, bd, fun base => fnd_den (Sb := [1, 2, 3, 4, 5, 6]) F sc_mapping_fault rfl (io_ok (by decide)) fun cd A out s0 H0 E room hG tk => ⟨_, (dss_cons (ds_if (DW.dt (dw_or (dt_not (dt_truth (de_cb call_isi s_isi (by rfl) b.isinstance bb_isinstance (da_consN (de_var 0) (da_consN (de_ty (by rfl) b.tuple bb_tuple) da_nil))))) (dw_or1 (dt_cmp (op_ne2 (by exact room_64 room)) s_ne2 (de_cb c_len s_len (by rfl) b.len bb_len (da_consN (de_var 0) da_nil)) de_int)))) (dss_one (ds_ret (de_tup (da_cons de_non da_nil)))) dss_nil)
    (dss_cons (ds_asg (dg_tup (by rfl) (dgn_cons 1 nd (dgn_cons 2 nd dgn_nil))) (de_var 0))
    (dss_cons (ds_if (DW.dt (dw_or (dt_not (dt_truth (de_cb call_isi s_isi (by rfl) b.isinstance bb_isinstance (da_consN (de_var 1) (da_consN (de_ty (by rfl) b.list bb_list) da_nil))))) (dw_or1 (dt_not (dt_chain op_le op_le s_le s_le de_int (de_cb c_len s_len (by rfl) b.len bb_len (da_consN (de_var 1) da_nil)) (de_globI (by rfl) k_MOST_BITS)))))) (dss_one (ds_ret (de_tup (da_cons de_non da_nil)))) dss_nil)
    (dss_cons (ds_set 3 de_dnew nd)
    (dss_cons (ds_lend 1 (ds_for (passes_of (by rfl)) (by rfl) (di_enumLn 1 (by rfl) b.enumerate) (dg_tup (by rfl) (dgn_cons 4 nd (dgn_cons 5 nd dgn_nil))) (dss_cons (ds_if (dt_not (dt_truth (de_callI h_is_place room (by decide) hG tk (by rfl) (da_cons (de_cb c_len s_len (by rfl) b.len bb_len (da_consN (de_var 1) da_nil)) (da_cons (de_var 5) da_nil))))) (dss_one (ds_ret (de_tup (da_cons (de_var 4) da_nil)))) dss_nil)
    (dss_cons (ds_set 6 (de_ix (by exact room_1 room) (de_callI h_reduced room (by decide) hG tk (by rfl) (da_cons (de_var 3) (da_cons (de_var 5) (da_cons de_int da_nil)))) de_int) nd)
    (dss_cons (ds_if (dt_cmp (op_eq2 (by exact room_64 room)) s_eq2 (de_var 6) de_int) (dss_one (ds_ret (de_tup (da_cons (de_var 4) da_nil)))) dss_nil)
    (dss_one (ds_setI 3 (by exact room_1 room) (de_op op_sub s_sub (de_bits (de_op op_and s_and (de_var 6) (de_un un_neg s_neg (de_var 6)))) de_int) (de_tup (da_cons (de_var 6) (da_cons de_int da_nil))))))))))
    (dss_one (ds_ret (de_if (dt_truth (de_callI h_is_place room (by decide) hG tk (by rfl) (da_cons (de_cb c_len s_len (by rfl) b.len bb_len (da_consN (de_var 1) da_nil)) (da_cons (de_var 2) da_nil)))) (de_tup da_nil) (de_tup (da_cons (de_cb c_len s_len (by rfl) b.len bb_len (da_consN (de_var 1) da_nil)) da_nil))))))))))⟩⟩
theorem sc_behind : FnScope ["mapping", "other_mapping", "rows", "offset", "row"] ["mapping", "other_mapping"] (defScope st_behind) := ⟨rfl, rfl, rfl, by decide +kernel, rfl, by decide +kernel, by decide +kernel⟩
theorem i_behind {f : Addr} {fd : FuncData} (b : Bf mg)
  (hS : sysB K = true)
  (gl : mg "behind" = some (.ref f))
  (F : FunD K "behind" "behind" (defArgs st_behind) (defBody st_behind) (defScope st_behind) [] [] f fd)
  {f_moved : Addr} {fd_moved : FuncData} (h_moved : FnI P w K mg "moved" 2 ["mapping", "place"] [.fz, .ln] d_moved f_moved fd_moved)
  {f_put_together : Addr} {fd_put_together : FuncData} (h_put_together : FnI P w K mg "put_together" 1 ["masks", "indices"] [.ln, .ln] d_put_together f_put_together fd_put_together)
  {f_bits_of : Addr} {fd_bits_of : FuncData} (h_bits_of : FnI P w K mg "bits_of" 1 ["mask"] [.ln] d_bits_of f_bits_of fd_bits_of) : FnI P w K mg "behind" 3 ["mapping", "other_mapping"] [.fz, .fz] d_behind f fd := by
  have bd : Binds K fd ["mapping", "other_mapping"] [] := F.bindsN fun _ _ _ _ _ _ us hl => match us, hl with | [_, _], _ => rfl
  have nd := sc_behind.nd
  exact ⟨gl, F.kp, bd, fun base => fnd_den (Sb := [2, 3]) F sc_behind rfl (io_ok (by decide)) fun cd A out s0 H0 E room hG tk => ⟨_, (dss_cons (ds_asg (dg_tup (by rfl) (dgn_cons 2 nd (dgn_cons 3 nd dgn_nil))) (de_var 0))
    (dss_one (ds_ret (de_tup (da_cons (de_lcX (own := [("row", 4)]) (by rfl) nd (di_any (de_ix (by exact room_1 room) (de_var 1) de_int)) (blkOk_by (N := ["mapping", "other_mapping", "rows", "offset", "row"]) (sc := defScope st_behind) (by decide +kernel)) (fun _ _ _ _ _ => ⟨_, (dg_name 4 nd)⟩) (fun _ _ _ _ _ => ⟨_, dif_nil⟩) (fun _ _ _ _ _ => ⟨_, (de_callI h_put_together room (by decide) hG takes0 (by rfl) (da_cons (de_var 2) (da_cons (de_callI h_bits_of room (by decide) hG takes0 (by rfl) (da_cons (de_var 4) da_nil)) da_nil)))⟩)) (da_cons (de_callI h_moved room (by decide) hG tk (by rfl) (da_cons (de_var 1) (da_cons (de_var 3) da_nil))) da_nil))))))⟩⟩
theorem sc_back : FnScope ["mapping", "rows", "offset", "leads", "found", "bit"] ["mapping"] (defScope st_back) := ⟨rfl, rfl, rfl, by decide +kernel, rfl, by decide +kernel, by decide +kernel⟩
theorem i_back {f : Addr} {fd : FuncData} (b : Bf mg)
  (hS : sysB K = true)
  (gl : mg "back" = some (.ref f))
  (F : FunD K "back" "back" (defArgs st_back) (defBody st_back) (defScope st_back) [] [] f fd)
  {f_eliminated : Addr} {fd_eliminated : FuncData} (h_eliminated : FnI P w K mg "eliminated" 2 ["masks"] [.ln] d_eliminated f_eliminated fd_eliminated)
  {f_moved : Addr} {fd_moved : FuncData} (h_moved : FnI P w K mg "moved" 2 ["mapping", "place"] [.fz, .ln] d_moved f_moved fd_moved)
  {f_reduced : Addr} {fd_reduced : FuncData} (h_reduced : FnI P w K mg "reduced" 1 ["leads", "mask", "picks"] [.ln, .fz, .fz] d_reduced f_reduced fd_reduced) : FnI P w K mg "back" 3 ["mapping"] [.fz] d_back f fd := by
  have bd : Binds K fd ["mapping"] [] := F.bindsN fun _ _ _ _ _ _ us hl => match us, hl with | [_], _ => rfl
  have nd := sc_back.nd
  exact ⟨gl, F.kp, bd, fun base => fnd_den (Sb := [1, 2, 3, 4]) F sc_back rfl (io_ok (by decide)) fun cd A out s0 H0 E room hG tk => ⟨_, (dss_cons (ds_asg (dg_tup (by rfl) (dgn_cons 1 nd (dgn_cons 2 nd dgn_nil))) (de_var 0))
    (dss_cons (ds_set 3 (de_ix (by exact room_1 room) (de_callI h_eliminated room (by decide) hG tk (by rfl) (da_cons (de_var 1) da_nil)) de_int) nd)
    (dss_cons (ds_setLcX (own := [("bit", 5)]) (by rfl) nd (by rfl) (by rfl) (by rfl) (di_rng1 (by rfl) b.range (da_cons (de_cb c_len s_len (by rfl) b.len bb_len (da_consN (de_var 1) da_nil)) da_nil)) (blkOk_by (N := ["mapping", "rows", "offset", "leads", "found", "bit"]) (sc := defScope st_back) (by decide +kernel)) (fun _ _ _ _ _ => ⟨_, (dg_name 5 nd)⟩) (fun _ _ _ _ _ => ⟨_, dif_nil⟩) (fun _ _ _ _ _ => ⟨_, (de_ix (by exact room_1 room) (de_callI h_reduced room (by decide) hG takes0 (by rfl) (da_cons (de_var 3) (da_cons (de_op op_shlW s_shl de_int (de_var 5)) (da_cons de_int da_nil)))) de_int)⟩))
    (dss_one (ds_ret (de_tup (da_cons (de_var 4) (da_cons (de_callI h_moved room (by decide) hG tk (by rfl) (da_cons (de_tup (da_cons (de_var 4) (da_cons de_int da_nil))) (da_cons (de_var 2) da_nil))) da_nil))))))))⟩⟩
theorem sc_is_way : FnScope ["bits", "value"] ["bits", "value"] (defScope st_is_way) := ⟨rfl, rfl, rfl, by decide +kernel, rfl, by decide +kernel, by decide +kernel⟩
theorem i_is_way {f : Addr} {fd : FuncData} (b : Bf mg)
  (hS : sysB K = true)
  (gl : mg "is_way" = some (.ref f))
  (F : FunD K "is_way" "is_way" (defArgs st_is_way) (defBody st_is_way) (defScope st_is_way) [] [] f fd)
  {f_is_place : Addr} {fd_is_place : FuncData} (h_is_place : FnI P w K mg "is_place" 2 ["bits", "value"] [.ln, .ln] d_is_place f_is_place fd_is_place) : FnI P w K mg "is_way" 3 ["bits", "value"] [.ln, .ln] d_is_way f fd := by
  have bd : Binds K fd ["bits", "value"] [] := F.bindsN fun _ _ _ _ _ _ us hl => match us, hl with | [_, _], _ => rfl
  have nd := sc_is_way.nd
  exact ⟨gl, F.kp, bd, fun base => fnd_den (Sb := []) F sc_is_way rfl (io_ok (by decide)) fun cd A out s0 H0 E room hG tk => ⟨_, (dss_one (ds_ret (de_and (de_cb call_isi s_isi (by rfl) b.isinstance bb_isinstance (da_consN (de_var 1) (da_consN (de_ty (by rfl) b.tuple bb_tuple) da_nil))) (de_and (de_cmp (op_eq2 (by exact room_64 room)) s_eq2 (de_cb c_len s_len (by rfl) b.len bb_len (da_consN (de_var 1) da_nil)) de_int) (de_and (de_callI h_is_place room (by decide) hG tk (by rfl) (da_cons (de_var 0) (da_cons (de_ix (by exact room_1 room) (de_var 1) de_int) da_nil))) (de_one (de_callI h_is_place room (by decide) hG tk (by rfl) (da_cons (de_var 0) (da_cons (de_ix (by exact room_1 room) (de_var 1) de_int) da_nil)))))))))⟩⟩
theorem sc_clash_of : FnScope ["bits", "ways", "begins", "ends", "ones", "others", "picks"] ["bits", "ways"] (defScope st_clash_of) := ⟨rfl, rfl, rfl, by decide +kernel, rfl, by decide +kernel, by decide +kernel⟩
theorem i_clash_of {f : Addr} {fd : FuncData} (b : Bf mg)
  (hS : sysB K = true)
  (gl : mg "clash_of" = some (.ref f))
  (F : FunD K "clash_of" "clash_of" (defArgs st_clash_of) (defBody st_clash_of) (defScope st_clash_of) [] [] f fd)
  {f_begins_of : Addr} {fd_begins_of : FuncData} (h_begins_of : FnI P w K mg "begins_of" 2 ["bits", "ways"] [.ln, .ln] d_begins_of f_begins_of fd_begins_of)
  {f_ends_of : Addr} {fd_ends_of : FuncData} (h_ends_of : FnI P w K mg "ends_of" 2 ["bits", "ways"] [.ln, .ln] d_ends_of f_ends_of fd_ends_of)
  {f_eliminated : Addr} {fd_eliminated : FuncData} (h_eliminated : FnI P w K mg "eliminated" 2 ["masks"] [.ln] d_eliminated f_eliminated fd_eliminated)
  {f_put_together : Addr} {fd_put_together : FuncData} (h_put_together : FnI P w K mg "put_together" 1 ["masks", "indices"] [.ln, .ln] d_put_together f_put_together fd_put_together)
  {f_bits_of : Addr} {fd_bits_of : FuncData} (h_bits_of : FnI P w K mg "bits_of" 1 ["mask"] [.ln] d_bits_of f_bits_of fd_bits_of) : FnI P w K mg "clash_of" 3 ["bits", "ways"] [.ln, .ln] d_clash_of f fd := by
  have bd : Binds K fd ["bits", "ways"] [] := F.bindsN fun _ _ _ _ _ _ us hl => match us, hl with | [_, _], _ => rfl
  have nd := sc_clash_of.nd
  exact ⟨gl, F.kp, bd, fun base => fnd_den (Sb := [2, 3, 4, 5, 6]) F sc_clash_of rfl (io_ok (by decide)) fun cd A out s0 H0 E room hG tk => ⟨_, (dss_cons (ds_par (by rfl) nd (by rfl) (by rfl) (by decide) (by rfl) (by rfl) (da_cons (de_callI h_begins_of room (by decide) hG tk (by rfl) (da_cons (de_var 0) (da_cons (de_var 1) da_nil))) (da_cons (de_callI h_ends_of room (by decide) hG tk (by rfl) (da_cons (de_var 0) (da_cons (de_var 1) da_nil))) da_nil)) (by rfl))
    (dss_cons (ds_for (passes_of (by rfl)) (by rfl) (di_any (de_tup (da_cons (de_tup (da_cons (de_var 2) (da_cons (de_var 3) da_nil))) (da_cons (de_tup (da_cons (de_var 3) (da_cons (de_var 2) da_nil))) da_nil)))) (dg_tup (by rfl) (dgn_cons 4 nd (dgn_cons 5 nd dgn_nil))) (dss_one (ds_for (passes_of (by rfl)) (by rfl) (di_any (de_ix (by exact room_1 room) (de_callI h_eliminated room (by decide) hG tk (by rfl) (da_cons (de_var 4) da_nil)) de_int)) (dg_name 6 nd) (dss_one (ds_if (dt_cmp (op_ne2 (by exact room_64 room)) s_ne2 (de_callI h_put_together room (by decide) hG tk (by rfl) (da_cons (de_var 5) (da_cons (de_callI h_bits_of room (by decide) hG tk (by rfl) (da_cons (de_var 6) da_nil)) da_nil))) de_int) (dss_one (ds_ret (de_callI h_bits_of room (by decide) hG tk (by rfl) (da_cons (de_var 6) da_nil)))) dss_nil)))))
    (dss_one (ds_ret de_non))))⟩⟩
theorem sc_completed : FnScope ["bits", "places", "leads", "bit"] ["bits", "places"] (defScope st_completed) := ⟨rfl, rfl, rfl, by decide +kernel, rfl, by decide +kernel, by decide +kernel⟩
theorem i_completed {f : Addr} {fd : FuncData} (b : Bf mg)
  (hS : sysB K = true)
  (gl : mg "completed" = some (.ref f))
  (F : FunD K "completed" "completed" (defArgs st_completed) (defBody st_completed) (defScope st_completed) [] [] f fd)
  {f_eliminated : Addr} {fd_eliminated : FuncData} (h_eliminated : FnI P w K mg "eliminated" 2 ["masks"] [.ln] d_eliminated f_eliminated fd_eliminated) : FnI P w K mg "completed" 3 ["bits", "places"] [.ln, .ln] d_completed f fd := by
  have bd : Binds K fd ["bits", "places"] [] := F.bindsN fun _ _ _ _ _ _ us hl => match us, hl with | [_, _], _ => rfl
  have nd := sc_completed.nd
  exact ⟨gl, F.kp, bd, fun base => fnd_den (Sb := [2]) F sc_completed rfl (io_ok (by decide)) fun cd A out s0 H0 E room hG tk => ⟨_, (dss_cons (ds_set 2 (de_ix (by exact room_1 room) (de_callI h_eliminated room (by decide) hG tk (by rfl) (da_cons (de_var 1) da_nil)) de_int) nd)
    (dss_one (ds_ret (de_op o_add s_add (de_var 1) (de_lcX (own := [("bit", 3)]) (by rfl) nd (di_rng1 (by rfl) b.range (da_cons (de_var 0) da_nil)) (blkOk_by (N := ["bits", "places", "leads", "bit"]) (sc := defScope st_completed) (by decide +kernel)) (fun _ _ _ _ _ => ⟨_, (dg_name 3 nd)⟩) (fun _ _ _ _ _ => ⟨_, (dif_one (dt_cmp (op_notInX (by exact room_65 room)) s_notIn (de_var 3) (de_var 2)))⟩) (fun _ _ _ _ _ => ⟨_, (de_op op_shlW s_shl de_int (de_var 3))⟩))))))⟩⟩
theorem sc_need_mapping : FnScope ["mapping", "fault"] ["mapping"] (defScope st_need_mapping) := ⟨rfl, rfl, rfl, by decide +kernel, rfl, by decide +kernel, by decide +kernel⟩
theorem i_need_mapping {f : Addr} {fd : FuncData} (b : Bf mg)
  (hS : sysB K = true)
  (gl : mg "need_mapping" = some (.ref f))
  (F : FunD K "need_mapping" "need_mapping" (defArgs st_need_mapping) (defBody st_need_mapping) (defScope st_need_mapping) [] [] f fd)
  {f_mapping_fault : Addr} {fd_mapping_fault : FuncData} (h_mapping_fault : FnI P w K mg "mapping_fault" 3 ["value"] [.fz] d_mapping_fault f_mapping_fault fd_mapping_fault) : FnI P w K mg "need_mapping" 4 ["mapping"] [.fz] d_need_mapping f fd := by
  have bd : Binds K fd ["mapping"] [] := F.bindsN fun _ _ _ _ _ _ us hl => match us, hl with | [_], _ => rfl
  have nd := sc_need_mapping.nd
  exact ⟨gl, F.kp, bd, fun base => fnd_den (Sb := [1]) F sc_need_mapping rfl (io_ok (by decide)) fun cd A out s0 H0 E room hG tk => ⟨_, (dss_cons (ds_set 1 (de_callI h_mapping_fault room (by decide) hG tk (by rfl) (da_cons (de_var 0) da_nil)) nd)
    (dss_one (ds_if (dt_cmp (op_ne2 (by exact room_64 room)) s_ne2 (de_var 1) (de_tup da_nil)) (dss_one ds_no) dss_nil)))⟩⟩
theorem sc_need_ways : FnScope ["bits", "ways", "index", "way"] ["bits", "ways"] (defScope st_need_ways) := ⟨rfl, rfl, rfl, by decide +kernel, rfl, by decide +kernel, by decide +kernel⟩
theorem i_need_ways {f : Addr} {fd : FuncData} (b : Bf mg)
  (hS : sysB K = true)
  (gl : mg "need_ways" = some (.ref f))
  (F : FunD K "need_ways" "need_ways" (defArgs st_need_ways) (defBody st_need_ways) (defScope st_need_ways) [] [] f fd)
  (k_MOST_WAYS : ∃ t, mg "MOST_WAYS" = some (.int 100 t))
  {f_is_way : Addr} {fd_is_way : FuncData} (h_is_way : FnI P w K mg "is_way" 3 ["bits", "value"] [.ln, .ln] d_is_way f_is_way fd_is_way) : FnI P w K mg "need_ways" 4 ["bits", "ways"] [.ln, .ln] d_need_ways f fd := by
  have bd : Binds K fd ["bits", "ways"] [] := F.bindsN fun _ _ _ _ _ _ us hl => match us, hl with | [_, _], _ => rfl
  have nd := sc_need_ways.nd
  exact ⟨gl, F.kp, bd, fun base => fnd_den (Sb := [2, 3]) F sc_need_ways rfl (io_ok (by decide)) fun cd A out s0 H0 E room hG tk => ⟨_, (dss_cons (ds_if (DW.dt (dw_or (dt_not (dt_truth (de_cb call_isi s_isi (by rfl) b.isinstance bb_isinstance (da_consN (de_var 1) (da_consN (de_ty (by rfl) b.list bb_list) da_nil))))) (dw_or1 (dt_cmp op_gt s_gt (de_cb c_len s_len (by rfl) b.len bb_len (da_consN (de_var 1) da_nil)) (de_globI (by rfl) k_MOST_WAYS))))) (dss_one ds_no) dss_nil)
    (dss_one (ds_lend 1 (ds_for (passes_of (by rfl)) (by rfl) (di_enumLn 1 (by rfl) b.enumerate) (dg_tup (by rfl) (dgn_cons 2 nd (dgn_cons 3 nd dgn_nil))) (dss_one (ds_if (dt_not (dt_truth (de_callI h_is_way room (by decide) hG tk (by rfl) (da_cons (de_var 0) (da_cons (de_var 3) da_nil))))) (dss_one ds_no) dss_nil))))))⟩⟩
theorem sc_mapping_with : FnScope ["bits", "ways", "base", "base_end", "begins", "ends", "leads", "place", "end", "left", "one", "other", "rows", "bit"] ["bits", "ways"] (defScope st_mapping_with) := ⟨rfl, rfl, rfl, by decide +kernel, rfl, by decide +kernel, by decide +kernel⟩
theorem i_mapping_with {f : Addr} {fd : FuncData} (b : Bf mg)
  (hS : sysB K = true)
  (gl : mg "mapping_with" = some (.ref f))
  (F : FunD K "mapping_with" "mapping_with" (defArgs st_mapping_with) (defBody st_mapping_with) (defScope st_mapping_with) [] [] f fd)
  {f_behind : Addr} {fd_behind : FuncData} (h_behind : FnI P w K mg "behind" 3 ["mapping", "other_mapping"] [.fz, .fz] d_behind f_behind fd_behind)
  {f_reduced : Addr} {fd_reduced : FuncData} (h_reduced : FnI P w K mg "reduced" 1 ["leads", "mask", "picks"] [.ln, .fz, .fz] d_reduced f_reduced fd_reduced)
  {f_columns_of : Addr} {fd_columns_of : FuncData} (h_columns_of : FnI P w K mg "columns_of" 2 ["rows"] [.ln] d_columns_of f_columns_of fd_columns_of)
  {f_back : Addr} {fd_back : FuncData} (h_back : FnI P w K mg "back" 3 ["mapping"] [.fz] d_back f_back fd_back)
  {f_moved : Addr} {fd_moved : FuncData} (h_moved : FnI P w K mg "moved" 2 ["mapping", "place"] [.fz, .ln] d_moved f_moved fd_moved)
  {f_completed : Addr} {fd_completed : FuncData} (h_completed : FnI P w K mg "completed" 3 ["bits", "places"] [.ln, .ln] d_completed f_completed fd_completed) : FnI P w K mg "mapping_with" 4 ["bits", "ways"] [.ln, .ln] d_mapping_with f fd := by
  have bd : Binds K fd ["bits", "ways"] [] := F.bindsN fun _ _ _ _ _ _ us hl => match us, hl with | [_, _], _ => rfl
  have nd := sc_mapping_with.nd
  exact ⟨gl, F.kp, bd, fun base => fnd_den (Sb := [2, 3, 4, 5, 6, 7, 8, 9, 10, 11, 12]) F sc_mapping_with rfl (io_ok (by decide)) fun cd A out s0 H0 E room hG tk => ⟨_, (dss_cons (ds_if (dt_cmp (op_eq2 (by exact room_64 room)) s_eq2 (de_var 1) (de_lst da_nil)) (dss_one (ds_ret (de_tup (da_cons (de_lcX (own := [("bit", 13)]) (by rfl) nd (di_rng1 (by rfl) b.range (da_cons (de_var 0) da_nil)) (blkOk_by (N := ["bits", "ways", "base", "base_end", "begins", "ends", "leads", "place", "end", "left", "one", "other", "rows", "bit"]) (sc := defScope st_mapping_with) (by decide +kernel)) (fun _ _ _ _ _ => ⟨_, (dg_name 13 nd)⟩) (fun _ _ _ _ _ => ⟨_, dif_nil⟩) (fun _ _ _ _ _ => ⟨_, (de_op op_shlW s_shl de_int (de_var 13))⟩)) (da_cons de_int da_nil))))) dss_nil)
    (dss_cons (ds_asg (dg_tup (by rfl) (dgn_cons 2 nd (dgn_cons 3 nd dgn_nil))) (de_ix (by exact room_1 room) (de_var 1) de_int))
    (dss_cons (ds_par3 (by rfl) nd (by rfl) (by rfl) (by rfl) (by decide) (by decide) (by decide) (by rfl) (by rfl) (by rfl) (da_cons (de_lst da_nil) (da_cons (de_lst da_nil) (da_cons de_dnew da_nil))) (by rfl))
    (dss_cons (ds_lend 1 (ds_for (passes_of (by rfl)) (by rfl) (di_ln 1) (dg_tup (by rfl) (dgn_cons 7 nd (dgn_cons 8 nd dgn_nil))) (dss_cons (ds_set 9 (de_ix (by exact room_1 room) (de_callI h_reduced room (by decide) hG tk (by rfl) (da_cons (de_var 6) (da_cons (de_op op_xor s_xor (de_var 7) (de_var 2)) (da_cons de_int da_nil)))) de_int) nd)
    (dss_one (ds_if (dt_cmp (op_ne2 (by exact room_64 room)) s_ne2 (de_var 9) de_int) (dss_cons (ds_setI 6 (by exact room_1 room) (de_op op_sub s_sub (de_bits (de_op op_and s_and (de_var 9) (de_un un_neg s_neg (de_var 9)))) de_int) (de_tup (da_cons (de_var 9) (da_cons de_int da_nil))))
    (dss_cons (ds_expr (de_bm 4 PySem.F.plainAttrs_list PySem.F.slot_list_append PySem.F.type_list_append mt_append ty_lst s_append (da_cons (de_op op_xor s_xor (de_var 7) (de_var 2)) da_nil)))
    (dss_one (ds_expr (de_bm 5 PySem.F.plainAttrs_list PySem.F.slot_list_append PySem.F.type_list_append mt_append ty_lst s_append (da_cons (de_op op_xor s_xor (de_var 8) (de_var 3)) da_nil)))))) dss_nil)))))
    (dss_cons (ds_par (by rfl) nd (by rfl) (by rfl) (by decide) (by rfl) (by rfl) (da_cons (de_tup (da_cons (de_callI h_columns_of room (by decide) hG tk (by rfl) (da_cons (de_callI h_completed room (by decide) hG tk (by rfl) (da_cons (de_var 0) (da_cons (de_var 4) da_nil))) da_nil)) (da_cons de_int da_nil))) (da_cons (de_tup (da_cons (de_callI h_columns_of room (by decide) hG tk (by rfl) (da_cons (de_callI h_completed room (by decide) hG tk (by rfl) (da_cons (de_var 0) (da_cons (de_var 5) da_nil))) da_nil)) (da_cons de_int da_nil))) da_nil)) (by rfl))
    (dss_cons (ds_set 12 (de_ix (by exact room_1 room) (de_callI h_behind room (by decide) hG tk (by rfl) (da_cons (de_callI h_back room (by decide) hG tk (by rfl) (da_cons (de_var 10) da_nil)) (da_cons (de_var 11) da_nil))) de_int) nd)
    (dss_one (ds_ret (de_tup (da_cons (de_var 12) (da_cons (de_op op_xor s_xor (de_var 3) (de_callI h_moved room (by decide) hG tk (by rfl) (da_cons (de_tup (da_cons (de_var 12) (da_cons de_int da_nil))) (da_cons (de_var 2) da_nil)))) da_nil)))))))))))⟩⟩
theorem sc_need_agreeing : FnScope ["bits", "ways"] ["bits", "ways"] (defScope st_need_agreeing) := ⟨rfl, rfl, rfl, by decide +kernel, rfl, by decide +kernel, by decide +kernel⟩
theorem i_need_agreeing {f : Addr} {fd : FuncData} (b : Bf mg)
  (hS : sysB K = true)
  (gl : mg "need_agreeing" = some (.ref f))
  (F : FunD K "need_agreeing" "need_agreeing" (defArgs st_need_agreeing) (defBody st_need_agreeing) (defScope st_need_agreeing) [] [] f fd)
  {f_clash_of : Addr} {fd_clash_of : FuncData} (h_clash_of : FnI P w K mg "clash_of" 3 ["bits", "ways"] [.ln, .ln] d_clash_of f_clash_of fd_clash_of)
  (xc_Impossible : ExF K mg "Impossible") : FnI P w K mg "need_agreeing" 4 ["bits", "ways"] [.ln, .ln] d_need_agreeing f fd := by
  have bd : Binds K fd ["bits", "ways"] [] := F.bindsN fun _ _ _ _ _ _ us hl => match us, hl with | [_, _], _ => rfl
  have nd := sc_need_agreeing.nd
  exact ⟨gl, F.kp, bd, fun base => fnd_den (Sb := []) F sc_need_agreeing rfl (io_ok (by decide)) fun cd A out s0 H0 E room hG tk => ⟨_, (dss_one (ds_if (dt_cmp op_notN s_notN (de_callI h_clash_of room (by decide) hG tk (by rfl) (da_cons (de_var 0) (da_cons (de_var 1) da_nil))) de_non) (dss_one (ds_raise xc_Impossible (by rfl) tk (by rfl))) dss_nil))⟩⟩
theorem sc_need_both : FnScope ["bits", "ways"] ["bits", "ways"] (defScope st_need_both) := ⟨rfl, rfl, rfl, by decide +kernel, rfl, by decide +kernel, by decide +kernel⟩
theorem i_need_both {f : Addr} {fd : FuncData} (b : Bf mg)
  (hS : sysB K = true)
  (gl : mg "need_both" = some (.ref f))
  (F : FunD K "need_both" "need_both" (defArgs st_need_both) (defBody st_need_both) (defScope st_need_both) [] [] f fd)
  {f_need_bits : Addr} {fd_need_bits : FuncData} (h_need_bits : FnI P w K mg "need_bits" 2 ["bits"] [.ln] d_need_bits f_need_bits fd_need_bits)
  {f_need_ways : Addr} {fd_need_ways : FuncData} (h_need_ways : FnI P w K mg "need_ways" 4 ["bits", "ways"] [.ln, .ln] d_need_ways f_need_ways fd_need_ways) : FnI P w K mg "need_both" 5 ["bits", "ways"] [.ln, .ln] d_need_both_k52 f fd := by
  have bd : Binds K fd ["bits", "ways"] [] := F.bindsN fun _ _ _ _ _ _ us hl => match us, hl with | [_, _], _ => rfl
  have nd := sc_need_both.nd
  exact ⟨gl, F.kp, bd, fun base => fnd_den (Sb := []) F sc_need_both rfl (io_ok (by decide)) fun cd A out s0 H0 E room hG tk => ⟨_, (dss_cons (ds_expr (de_callI h_need_bits room (by decide) hG tk (by rfl) (da_cons (de_var 0) da_nil)))
    (dss_one (ds_expr (de_callI h_need_ways room (by decide) hG tk (by rfl) (da_cons (de_var 0) (da_cons (de_var 1) da_nil))))))⟩⟩
theorem sc_agrees : FnScope ["mapping", "ways", "place", "end"] ["mapping", "ways"] (defScope st_agrees) := ⟨rfl, rfl, rfl, by decide +kernel, rfl, by decide +kernel, by decide +kernel⟩
theorem i_agrees {f : Addr} {fd : FuncData} (b : Bf mg)
  (hS : sysB K = true)
  (gl : mg "agrees" = some (.ref f))
  (F : FunD K "agrees" "agrees" (defArgs st_agrees) (defBody st_agrees) (defScope st_agrees) [] [] f fd)
  {f_need_mapping : Addr} {fd_need_mapping : FuncData} (h_need_mapping : FnI P w K mg "need_mapping" 4 ["mapping"] [.fz] d_need_mapping f_need_mapping fd_need_mapping)
  {f_need_ways : Addr} {fd_need_ways : FuncData} (h_need_ways : FnI P w K mg "need_ways" 4 ["bits", "ways"] [.ln, .ln] d_need_ways f_need_ways fd_need_ways)
  {f_moved : Addr} {fd_moved : FuncData} (h_moved : FnI P w K mg "moved" 2 ["mapping", "place"] [.fz, .ln] d_moved f_moved fd_moved) : FnI P w K mg "agrees" 5 ["mapping", "ways"] [.fz, .ln] d_agrees f fd := by
  have bd : Binds K fd ["mapping", "ways"] [] := F.bindsN fun _ _ _ _ _ _ us hl => match us, hl with | [_, _], _ => rfl
  have nd := sc_agrees.nd
  exact ⟨gl, F.kp, bd, fun base => fnd_den (Sb := []) F sc_agrees rfl (io_ok (by decide)) fun cd A out s0 H0 E room hG tk => ⟨_, (dss_cons (ds_expr (de_callI h_need_mapping room (by decide) hG tk (by rfl) (da_cons (de_var 0) da_nil)))
    (dss_cons (ds_expr (de_callI h_need_ways room (by decide) hG tk (by rfl) (da_cons (de_cb c_len s_len (by rfl) b.len bb_len (da_consN (de_ix (by exact room_1 room) (de_var 0) de_int) da_nil)) (da_cons (de_var 1) da_nil))))
    (dss_one (ds_ret (de_cb (cr_all (by rfl)) s_all (by rfl) b.all bb_all (da_consN (de_lend 1 (de_lcX (own := [("place", 2), ("end", 3)]) (by rfl) nd (di_ln 1) (blkOk_by (N := ["mapping", "ways", "place", "end"]) (sc := defScope st_agrees) (by decide +kernel)) (fun _ _ _ _ _ => ⟨_, (dg_tup (by rfl) (dgn_cons 2 nd (dgn_cons 3 nd dgn_nil)))⟩) (fun _ _ _ _ _ => ⟨_, dif_nil⟩) (fun _ _ _ _ _ => ⟨_, (de_cmp (op_eq2 (by exact room_64 room)) s_eq2 (de_callI h_moved room (by decide) hG takes0 (by rfl) (da_cons (de_var 0) (da_cons (de_var 2) da_nil))) (de_var 3))⟩))) da_nil))))))⟩⟩
theorem z_agrees_ways_mapping {f : Addr} {fd : FuncData} (F : FunD K "agrees" "agrees" (defArgs st_agrees) (defBody st_agrees) (defScope st_agrees) [] [] f fd) : KB0 K fd ["mapping", "ways"] ["ways", "mapping"] [0] :=
  KB0.of F fun _ _ _ _ _ _ ws hl => match ws, hl with | [_, _], _ => rfl
theorem sc_some_mapping : FnScope ["bits", "ways"] ["bits", "ways"] (defScope st_some_mapping) := ⟨rfl, rfl, rfl, by decide +kernel, rfl, by decide +kernel, by decide +kernel⟩
theorem i_some_mapping {f : Addr} {fd : FuncData} (b : Bf mg)
  (hS : sysB K = true)
  (gl : mg "some_mapping" = some (.ref f))
  (F : FunD K "some_mapping" "some_mapping" (defArgs st_some_mapping) (defBody st_some_mapping) (defScope st_some_mapping) [] [] f fd)
  {f_need_both : Addr} {fd_need_both : FuncData} (h_need_both : FnI P w K mg "need_both" 5 ["bits", "ways"] [.ln, .ln] d_need_both_k52 f_need_both fd_need_both)
  {f_mapping_with : Addr} {fd_mapping_with : FuncData} (h_mapping_with : FnI P w K mg "mapping_with" 4 ["bits", "ways"] [.ln, .ln] d_mapping_with f_mapping_with fd_mapping_with)
  {f_clash_of : Addr} {fd_clash_of : FuncData} (h_clash_of : FnI P w K mg "clash_of" 3 ["bits", "ways"] [.ln, .ln] d_clash_of f_clash_of fd_clash_of) : FnI P w K mg "some_mapping" 6 ["bits", "ways"] [.ln, .ln] d_some_mapping f fd := by
  have bd : Binds K fd ["bits", "ways"] [] := F.bindsN fun _ _ _ _ _ _ us hl => match us, hl with | [_, _], _ => rfl
  have nd := sc_some_mapping.nd
  exact ⟨gl, F.kp, bd, fun base => fnd_den (Sb := []) F sc_some_mapping rfl (io_ok (by decide)) fun cd A out s0 H0 E room hG tk => ⟨_, (dss_cons (ds_expr (de_callI h_need_both room (by decide) hG tk (by rfl) (da_cons (de_var 0) (da_cons (de_var 1) da_nil))))
    (dss_one (ds_ret (de_if (dt_cmp op_isN s_isN (de_callI h_clash_of room (by decide) hG tk (by rfl) (da_cons (de_var 0) (da_cons (de_var 1) da_nil))) de_non) (de_callI h_mapping_with room (by decide) hG tk (by rfl) (da_cons (de_var 0) (da_cons (de_var 1) da_nil))) de_non))))⟩⟩
theorem z_some_mapping_ways_bits {f : Addr} {fd : FuncData} (F : FunD K "some_mapping" "some_mapping" (defArgs st_some_mapping) (defBody st_some_mapping) (defScope st_some_mapping) [] [] f fd) : KB0 K fd ["bits", "ways"] ["ways", "bits"] [0] :=
  KB0.of F fun _ _ _ _ _ _ ws hl => match ws, hl with | [_, _], _ => rfl
theorem sc_clash : FnScope ["bits", "ways"] ["bits", "ways"] (defScope st_clash) := ⟨rfl, rfl, rfl, by decide +kernel, rfl, by decide +kernel, by decide +kernel⟩
theorem i_clash {f : Addr} {fd : FuncData} (b : Bf mg)
  (hS : sysB K = true)
  (gl : mg "clash" = some (.ref f))
  (F : FunD K "clash" "clash" (defArgs st_clash) (defBody st_clash) (defScope st_clash) [] [] f fd)
  {f_need_both : Addr} {fd_need_both : FuncData} (h_need_both : FnI P w K mg "need_both" 5 ["bits", "ways"] [.ln, .ln] d_need_both_k52 f_need_both fd_need_both)
  {f_clash_of : Addr} {fd_clash_of : FuncData} (h_clash_of : FnI P w K mg "clash_of" 3 ["bits", "ways"] [.ln, .ln] d_clash_of f_clash_of fd_clash_of) : FnI P w K mg "clash" 6 ["bits", "ways"] [.ln, .ln] d_clash f fd := by
  have bd : Binds K fd ["bits", "ways"] [] := F.bindsN fun _ _ _ _ _ _ us hl => match us, hl with | [_, _], _ => rfl
  have nd := sc_clash.nd
  exact ⟨gl, F.kp, bd, fun base => fnd_den (Sb := []) F sc_clash rfl (io_ok (by decide)) fun cd A out s0 H0 E room hG tk => ⟨_, (dss_cons (ds_expr (de_callI h_need_both room (by decide) hG tk (by rfl) (da_cons (de_var 0) (da_cons (de_var 1) da_nil))))
    (dss_one (ds_ret (de_callI h_clash_of room (by decide) hG tk (by rfl) (da_cons (de_var 0) (da_cons (de_var 1) da_nil))))))⟩⟩
theorem z_clash_ways_bits {f : Addr} {fd : FuncData} (F : FunD K "clash" "clash" (defArgs st_clash) (defBody st_clash) (defScope st_clash) [] [] f fd) : KB0 K fd ["bits", "ways"] ["ways", "bits"] [0] :=
  KB0.of F fun _ _ _ _ _ _ ws hl => match ws, hl with | [_, _], _ => rfl
theorem sc_agreeing_count : FnScope ["bits", "ways", "known", "found", "turn"] ["bits", "ways"] (defScope st_agreeing_count) := ⟨rfl, rfl, rfl, by decide +kernel, rfl, by decide +kernel, by decide +kernel⟩
theorem i_agreeing_count {f : Addr} {fd : FuncData} (b : Bf mg)
  (hS : sysB K = true)
  (gl : mg "agreeing_count" = some (.ref f))
  (F : FunD K "agreeing_count" "agreeing_count" (defArgs st_agreeing_count) (defBody st_agreeing_count) (defScope st_agreeing_count) [] [] f fd)
  (k_MOST_COUNTED : ∃ t, mg "MOST_COUNTED" = some (.int 50 t))
  {f_need_both : Addr} {fd_need_both : FuncData} (h_need_both : FnI P w K mg "need_both" 5 ["bits", "ways"] [.ln, .ln] d_need_both_k52 f_need_both fd_need_both)
  {f_need_few : Addr} {fd_need_few : FuncData} (h_need_few : FnI P w K mg "need_few" 1 ["bits", "limit"] [.ln, .ln] d_need_few f_need_few fd_need_few)
  {f_rank_of : Addr} {fd_rank_of : FuncData} (h_rank_of : FnI P w K mg "rank_of" 3 ["masks"] [.ln] d_rank_of f_rank_of fd_rank_of)
  {f_clash_of : Addr} {fd_clash_of : FuncData} (h_clash_of : FnI P w K mg "clash_of" 3 ["bits", "ways"] [.ln, .ln] d_clash_of f_clash_of fd_clash_of)
  {f_begins_of : Addr} {fd_begins_of : FuncData} (h_begins_of : FnI P w K mg "begins_of" 2 ["bits", "ways"] [.ln, .ln] d_begins_of f_begins_of fd_begins_of) : FnI P w K mg "agreeing_count" 6 ["bits", "ways"] [.ln, .ln] d_agreeing_count f fd := by
  have bd : Binds K fd ["bits", "ways"] [] := F.bindsN fun _ _ _ _ _ _ us hl => match us, hl with | [_, _], _ => rfl
  have nd := sc_agreeing_count.nd
  exact ⟨gl, F.kp, bd, fun base => fnd_den (Sb := [2, 3, 4, 3]) F sc_agreeing_count rfl (io_ok (by decide)) fun cd A out s0 H0 E room hG tk => ⟨_, (dss_cons (ds_expr (de_callI h_need_both room (by decide) hG tk (by rfl) (da_cons (de_var 0) (da_cons (de_var 1) da_nil))))
    (dss_cons (ds_expr (de_callI h_need_few room (by decide) hG tk (by rfl) (da_cons (de_var 0) (da_cons (de_globI (by rfl) k_MOST_COUNTED) da_nil))))
    (dss_cons (ds_if (dt_cmp op_notN s_notN (de_callI h_clash_of room (by decide) hG tk (by rfl) (da_cons (de_var 0) (da_cons (de_var 1) da_nil))) de_non) (dss_one (ds_ret de_int)) dss_nil)
    (dss_cons (ds_set 2 (de_callI h_rank_of room (by decide) hG tk (by rfl) (da_cons (de_callI h_begins_of room (by decide) hG tk (by rfl) (da_cons (de_var 0) (da_cons (de_var 1) da_nil))) da_nil)) nd)
    (dss_cons (ds_set 3 (de_if (dt_cmp (op_eq2 (by exact room_64 room)) s_eq2 (de_var 2) de_int) (de_op op_shlW s_shl de_int (de_var 0)) de_int) nd)
    (dss_cons (ds_for (passes_of (by rfl)) (by rfl) (di_rng2 (by rfl) b.range (da_cons (de_cb (c_max (by rfl)) s_max (by rfl) b.max bb_max (da_consN de_int (da_consN (de_op op_sub s_sub (de_var 2) de_int) da_nil))) (da_cons (de_var 0) da_nil))) (dg_name 4 nd) (dss_one (ds_aug 3 nd (de_op op_sub s_sub (de_op op_shlW s_shl de_int (de_var 0)) (de_op op_shlW s_shl de_int (de_var 4))) iop_mulA s_mulI)))
    (dss_one (ds_ret (de_var 3)))))))))⟩⟩
theorem z_agreeing_count_ways_bits {f : Addr} {fd : FuncData} (F : FunD K "agreeing_count" "agreeing_count" (defArgs st_agreeing_count) (defBody st_agreeing_count) (defScope st_agreeing_count) [] [] f fd) : KB0 K fd ["bits", "ways"] ["ways", "bits"] [0] :=
  KB0.of F fun _ _ _ _ _ _ ws hl => match ws, hl with | [_, _], _ => rfl
theorem sc_sure_end : FnScope ["bits", "ways", "place", "left", "picks", "begin", "end"] ["bits", "ways", "place"] (defScope st_sure_end) := ⟨rfl, rfl, rfl, by decide +kernel, rfl, by decide +kernel, by decide +kernel⟩
theorem i_sure_end {f : Addr} {fd : FuncData} (b : Bf mg)
  (hS : sysB K = true)
  (gl : mg "sure_end" = some (.ref f))
  (F : FunD K "sure_end" "sure_end" (defArgs st_sure_end) (defBody st_sure_end) (defScope st_sure_end) [] [] f fd)
  {f_need_both : Addr} {fd_need_both : FuncData} (h_need_both : FnI P w K mg "need_both" 5 ["bits", "ways"] [.ln, .ln] d_need_both_k52 f_need_both fd_need_both)
  {f_need_place : Addr} {fd_need_place : FuncData} (h_need_place : FnI P w K mg "need_place" 3 ["bits", "value"] [.ln, .ln] d_need_place f_need_place fd_need_place)
  {f_need_agreeing : Addr} {fd_need_agreeing : FuncData} (h_need_agreeing : FnI P w K mg "need_agreeing" 4 ["bits", "ways"] [.ln, .ln] d_need_agreeing f_need_agreeing fd_need_agreeing)
  {f_reduced : Addr} {fd_reduced : FuncData} (h_reduced : FnI P w K mg "reduced" 1 ["leads", "mask", "picks"] [.ln, .fz, .fz] d_reduced f_reduced fd_reduced)
  {f_put_together : Addr} {fd_put_together : FuncData} (h_put_together : FnI P w K mg "put_together" 1 ["masks", "indices"] [.ln, .ln] d_put_together f_put_together fd_put_together)
  {f_eliminated : Addr} {fd_eliminated : FuncData} (h_eliminated : FnI P w K mg "eliminated" 2 ["masks"] [.ln] d_eliminated f_eliminated fd_eliminated)
  {f_bits_of : Addr} {fd_bits_of : FuncData} (h_bits_of : FnI P w K mg "bits_of" 1 ["mask"] [.ln] d_bits_of f_bits_of fd_bits_of)
  {f_begins_of : Addr} {fd_begins_of : FuncData} (h_begins_of : FnI P w K mg "begins_of" 2 ["bits", "ways"] [.ln, .ln] d_begins_of f_begins_of fd_begins_of) : FnI P w K mg "sure_end" 6 ["bits", "ways", "place"] [.ln, .ln, .ln] d_sure_end f fd := by
  have bd : Binds K fd ["bits", "ways", "place"] [] := F.bindsN fun _ _ _ _ _ _ us hl => match us, hl with | [_, _, _], _ => rfl
  have nd := sc_sure_end.nd
  exact ⟨gl, F.kp, bd, fun base => fnd_den (Sb := [3, 4]) F sc_sure_end rfl (io_ok (by decide)) fun cd A out s0 H0 E room hG tk => ⟨_, (dss_cons (ds_expr (de_callI h_need_both room (by decide) hG tk (by rfl) (da_cons (de_var 0) (da_cons (de_var 1) da_nil))))
    (dss_cons (ds_expr (de_callI h_need_place room (by decide) hG tk (by rfl) (da_cons (de_var 0) (da_cons (de_var 2) da_nil))))
    (dss_cons (ds_expr (de_callI h_need_agreeing room (by decide) hG tk (by rfl) (da_cons (de_var 0) (da_cons (de_var 1) da_nil))))
    (dss_cons (ds_asg (dg_tup (by rfl) (dgn_cons 3 nd (dgn_cons 4 nd dgn_nil))) (de_callI h_reduced room (by decide) hG tk (by rfl) (da_cons (de_ix (by exact room_1 room) (de_callI h_eliminated room (by decide) hG tk (by rfl) (da_cons (de_callI h_begins_of room (by decide) hG tk (by rfl) (da_cons (de_var 0) (da_cons (de_var 1) da_nil))) da_nil)) de_int) (da_cons (de_op op_or s_or (de_var 2) (de_op op_shlW s_shl de_int (de_var 0))) (da_cons de_int da_nil)))))
    (dss_cons (ds_if (dt_cmp (op_eq2 (by exact room_64 room)) s_eq2 (de_var 3) de_int) (dss_one (ds_ret (de_callI h_put_together room (by decide) hG tk (by rfl) (da_cons (de_lend 1 (de_lcX (own := [("begin", 5), ("end", 6)]) (by rfl) nd (di_ln 1) (blkOk_by (N := ["bits", "ways", "place", "left", "picks", "begin", "end"]) (sc := defScope st_sure_end) (by decide +kernel)) (fun _ _ _ _ _ => ⟨_, (dg_tup (by rfl) (dgn_cons 5 nd (dgn_cons 6 nd dgn_nil)))⟩) (fun _ _ _ _ _ => ⟨_, dif_nil⟩) (fun _ _ _ _ _ => ⟨_, (de_var 6)⟩))) (da_cons (de_callI h_bits_of room (by decide) hG tk (by rfl) (da_cons (de_var 4) da_nil)) da_nil))))) dss_nil)
    (dss_one (ds_ret (de_if (DW.dt (dw_and (dt_cmp (op_eq2 (by exact room_64 room)) s_eq2 (de_var 0) de_int) (dw_and1 (dt_cmp (op_ne2 (by exact room_64 room)) s_ne2 (de_var 1) (de_lst da_nil))))) (de_op op_xor s_xor (de_ix (by exact room_1 room) (de_ix (by exact room_1 room) (de_var 1) de_int) de_int) de_int) de_non))))))))⟩⟩
theorem z_sure_end_place_ways_bits {f : Addr} {fd : FuncData} (F : FunD K "sure_end" "sure_end" (defArgs st_sure_end) (defBody st_sure_end) (defScope st_sure_end) [] [] f fd) : KB0 K fd ["bits", "ways", "place"] ["place", "ways", "bits"] [1, 0, 1] :=
  KB0.of F fun _ _ _ _ _ _ ws hl => match ws, hl with | [_, _, _], _ => rfl
theorem sc_can_end : FnScope ["bits", "ways", "place", "end"] ["bits", "ways", "place", "end"] (defScope st_can_end) := ⟨rfl, rfl, rfl, by decide +kernel, rfl, by decide +kernel, by decide +kernel⟩
theorem i_can_end {f : Addr} {fd : FuncData} (b : Bf mg)
  (hS : sysB K = true)
  (gl : mg "can_end" = some (.ref f))
  (F : FunD K "can_end" "can_end" (defArgs st_can_end) (defBody st_can_end) (defScope st_can_end) [] [] f fd)
  {f_need_both : Addr} {fd_need_both : FuncData} (h_need_both : FnI P w K mg "need_both" 5 ["bits", "ways"] [.ln, .ln] d_need_both_k52 f_need_both fd_need_both)
  {f_need_place : Addr} {fd_need_place : FuncData} (h_need_place : FnI P w K mg "need_place" 3 ["bits", "value"] [.ln, .ln] d_need_place f_need_place fd_need_place)
  {f_need_agreeing : Addr} {fd_need_agreeing : FuncData} (h_need_agreeing : FnI P w K mg "need_agreeing" 4 ["bits", "ways"] [.ln, .ln] d_need_agreeing f_need_agreeing fd_need_agreeing)
  {f_clash_of : Addr} {fd_clash_of : FuncData} (h_clash_of : FnI P w K mg "clash_of" 3 ["bits", "ways"] [.ln, .ln] d_clash_of f_clash_of fd_clash_of) : FnI P w K mg "can_end" 6 ["bits", "ways", "place", "end"] [.ln, .ln, .fz, .fz] d_can_end f fd := by
  have bd : Binds K fd ["bits", "ways", "place", "end"] [] := F.bindsN fun _ _ _ _ _ _ us hl => match us, hl with | [_, _, _, _], _ => rfl
  have nd := sc_can_end.nd
  exact ⟨gl, F.kp, bd, fun base => fnd_den (Sb := []) F sc_can_end rfl (io_ok (by decide)) fun cd A out s0 H0 E room hG tk => ⟨_, (dss_cons (ds_expr (de_callI h_need_both room (by decide) hG tk (by rfl) (da_cons (de_var 0) (da_cons (de_var 1) da_nil))))
    (dss_cons (ds_expr (de_callI h_need_place room (by decide) hG tk (by rfl) (da_cons (de_var 0) (da_cons (de_var 2) da_nil))))
    (dss_cons (ds_expr (de_callI h_need_place room (by decide) hG tk (by rfl) (da_cons (de_var 0) (da_cons (de_var 3) da_nil))))
    (dss_cons (ds_expr (de_callI h_need_agreeing room (by decide) hG tk (by rfl) (da_cons (de_var 0) (da_cons (de_var 1) da_nil))))
    (dss_one (ds_ret (de_cmp op_isN s_isN (de_callI h_clash_of room (by decide) hG tk (by rfl) (da_cons (de_var 0) (da_cons (de_lst (da_star (de_var 1) (da_cons (de_tup (da_cons (de_var 2) (da_cons (de_var 3) da_nil))) da_nil))) da_nil))) de_non)))))))⟩⟩
theorem z_can_end_end_place_ways_bits {f : Addr} {fd : FuncData} (F : FunD K "can_end" "can_end" (defArgs st_can_end) (defBody st_can_end) (defScope st_can_end) [] [] f fd) : KB0 K fd ["bits", "ways", "place", "end"] ["end", "place", "ways", "bits"] [2, 1, 0, 2, 1, 2] :=
  KB0.of F fun _ _ _ _ _ _ ws hl => match ws, hl with | [_, _, _, _], _ => rfl
theorem sc__law_sure_right : FnScope ["size", "pairs", "lists_here", "spot", "goals", "due", "told", "line", "goal"] ["size", "pairs", "lists_here"] (defScope st__law_sure_right) := ⟨rfl, rfl, rfl, by decide +kernel, rfl, by decide +kernel, by decide +kernel⟩
theorem i__law_sure_right {f : Addr} {fd : FuncData} (b : Bf mg)
  (hS : sysB K = true)
  (gl : mg "_law_sure_right" = some (.ref f))
  (F : FunD K "_law_sure_right" "_law_sure_right" (defArgs st__law_sure_right) (defBody st__law_sure_right) (defScope st__law_sure_right) [] [] f fd)
  {f__law_spots : Addr} {fd__law_spots : FuncData} (h__law_spots : FnI P w K mg "_law_spots" 1 ["size"] [.ln] d__law_spots f__law_spots fd__law_spots)
  {f_can_end : Addr} {fd_can_end : FuncData} (h_can_end : FnI P w K mg "can_end" 6 ["bits", "ways", "place", "end"] [.ln, .ln, .fz, .fz] d_can_end f_can_end fd_can_end)
  {f_sure_end : Addr} {fd_sure_end : FuncData} (h_sure_end : FnI P w K mg "sure_end" 6 ["bits", "ways", "place"] [.ln, .ln, .ln] d_sure_end f_sure_end fd_sure_end)
  (z_can_end_end_place_ways_bits : KB0 K fd_can_end ["bits", "ways", "place", "end"] ["end", "place", "ways", "bits"] [2, 1, 0, 2, 1, 2])
  (z_sure_end_place_ways_bits : KB0 K fd_sure_end ["bits", "ways", "place"] ["place", "ways", "bits"] [1, 0, 1]) : FnI P w K mg "_law_sure_right" 7 ["size", "pairs", "lists_here"] [.ln, .ln, .ln] d__law_sure_right_k52 f fd := by
  have bd : Binds K fd ["size", "pairs", "lists_here"] [] := F.bindsN fun _ _ _ _ _ _ us hl => match us, hl with | [_, _, _], _ => rfl
  have nd := sc__law_sure_right.nd
  exact ⟨gl, F.kp, bd, fun base => fnd_den (Sb := [3, 4, 5, 6]) F sc__law_sure_right rfl (io_ok (by decide)) fun cd A out s0 H0 E room hG tk => ⟨_, (dss_cons (ds_for (passes_of (by rfl)) (by rfl) (di_any (de_callI h__law_spots room (by decide) hG tk (by rfl) (da_cons (de_var 0) da_nil))) (dg_name 3 nd) (dss_cons (ds_set 4 (de_sortSet rfl (by rfl) b.sorted (by rfl) b.set (de_lend 2 (de_lcX (own := [("line", 7)]) (by rfl) nd (di_ln 2) (blkOk_by (N := ["size", "pairs", "lists_here", "spot", "goals", "due", "told", "line", "goal"]) (sc := defScope st__law_sure_right) (by decide +kernel)) (fun _ _ _ _ _ => ⟨_, (dg_name 7 nd)⟩) (fun _ _ _ _ _ => ⟨_, dif_nil⟩) (fun _ _ _ _ _ => ⟨_, (de_ix (by exact room_1 room) (de_var 7) (de_var 3))⟩)))) nd)
    (dss_cons (ds_set 5 (de_if (dt_cmp (op_eq2 (by exact room_64 room)) s_eq2 (de_cb c_len s_len (by rfl) b.len bb_len (da_consN (de_var 4) da_nil)) de_int) (de_ix (by exact room_1 room) (de_var 4) de_int) de_non) nd)
    (dss_cons (ds_set 6 (de_lst (da_cons (de_callI h_sure_end room (by decide) hG tk (by rfl) (da_cons (de_var 0) (da_cons (de_var 1) (da_cons (de_var 3) da_nil)))) (da_cons (de_callIS (ks := ["place", "ways", "bits"]) h_sure_end z_sure_end_place_ways_bits room (by decide) hG tk (by rfl) (dk_cons (de_var 3) (dk_cons (de_var 1) (dk_cons (de_var 0) dk_nil)))) da_nil))) nd)
    (dss_cons (ds_if (dt_cmp (op_ne2 (by exact room_64 room)) s_ne2 (de_cb (c_repr (by exact hG) (by exact hS) (by exact room_66 room)) s_repr (by rfl) b.repr bb_repr (da_consN (de_var 6) da_nil)) (de_cb (c_repr (by exact hG) (by exact hS) (by exact room_66 room)) s_repr (by rfl) b.repr bb_repr (da_consN (de_lst (da_cons (de_var 5) (da_cons (de_var 5) da_nil))) da_nil))) (dss_one (ds_ret de_bl)) dss_nil)
    (dss_one (ds_if (dt_cmp (op_ne2 (by exact room_64 room)) s_ne2 (de_lcX (own := [("goal", 8)]) (by rfl) nd (di_any (de_callI h__law_spots room (by decide) hG tk (by rfl) (da_cons (de_var 0) da_nil))) (blkOk_by (N := ["size", "pairs", "lists_here", "spot", "goals", "due", "told", "line", "goal"]) (sc := defScope st__law_sure_right) (by decide +kernel)) (fun _ _ _ _ _ => ⟨_, (dg_name 8 nd)⟩) (fun _ _ _ _ _ => ⟨_, (dif_one (dt_cmp (op_ne2 (by exact room_64 room)) s_ne2 (de_callI h_can_end room (by decide) hG takes0 (by rfl) (da_cons (de_var 0) (da_cons (de_var 1) (da_cons (de_var 3) (da_cons (de_var 8) da_nil))))) (de_cmp (op_inX (by exact room_65 room)) s_in (de_var 8) (de_var 4))))⟩) (fun _ _ _ _ _ => ⟨_, (de_var 8)⟩)) (de_lst da_nil)) (dss_one (ds_ret de_bl)) dss_nil)))))))
    (dss_one (ds_ret (de_cmp (op_eq2 (by exact room_64 room)) s_eq2 (de_callIS (ks := ["end", "place", "ways", "bits"]) h_can_end z_can_end_end_place_ways_bits room (by decide) hG tk (by rfl) (dk_cons de_int (dk_cons de_int (dk_cons (de_var 1) (dk_cons (de_var 0) dk_nil))))) (de_cmp (op_inX (by exact room_65 room)) s_in de_int (de_lend 2 (de_lcX (own := [("line", 7)]) (by rfl) nd (di_ln 2) (blkOk_by (N := ["size", "pairs", "lists_here", "spot", "goals", "due", "told", "line", "goal"]) (sc := defScope st__law_sure_right) (by decide +kernel)) (fun _ _ _ _ _ => ⟨_, (dg_name 7 nd)⟩) (fun _ _ _ _ _ => ⟨_, dif_nil⟩) (fun _ _ _ _ _ => ⟨_, (de_ix (by exact room_1 room) (de_var 7) de_int)⟩))))))))⟩⟩
theorem sc__law_none_right : FnScope ["size", "pairs", "found", "spot"] ["size", "pairs"] (defScope st__law_none_right) := ⟨rfl, rfl, rfl, by decide +kernel, rfl, by decide +kernel, by decide +kernel⟩
theorem i__law_none_right {f : Addr} {fd : FuncData} (b : Bf mg)
  (hS : sysB K = true)
  (gl : mg "_law_none_right" = some (.ref f))
  (F : FunD K "_law_none_right" "_law_none_right" (defArgs st__law_none_right) (defBody st__law_none_right) (defScope st__law_none_right) [] [] f fd)
  {f_some_mapping : Addr} {fd_some_mapping : FuncData} (h_some_mapping : FnI P w K mg "some_mapping" 6 ["bits", "ways"] [.ln, .ln] d_some_mapping f_some_mapping fd_some_mapping)
  {f_clash : Addr} {fd_clash : FuncData} (h_clash : FnI P w K mg "clash" 6 ["bits", "ways"] [.ln, .ln] d_clash f_clash fd_clash)
  {f_sure_end : Addr} {fd_sure_end : FuncData} (h_sure_end : FnI P w K mg "sure_end" 6 ["bits", "ways", "place"] [.ln, .ln, .ln] d_sure_end f_sure_end fd_sure_end)
  {f_can_end : Addr} {fd_can_end : FuncData} (h_can_end : FnI P w K mg "can_end" 6 ["bits", "ways", "place", "end"] [.ln, .ln, .fz, .fz] d_can_end f_can_end fd_can_end)
  (xc_Impossible : ExF K mg "Impossible")
  (xm_Impossible : ∀ p ∈ ([("Impossible", true), ("InvalidBits", false), ("InvalidPlace", false)] : List (Str × Bool)), PySem.W.exmOne K (.ref (He.ga K p.1)) (.ref (He.ga K "Impossible")) = some p.2) : FnI P w K mg "_law_none_right" 7 ["size", "pairs"] [.ln, .ln] d__law_none_right_k52 f fd := by
  have bd : Binds K fd ["size", "pairs"] [] := F.bindsN fun _ _ _ _ _ _ us hl => match us, hl with | [_, _], _ => rfl
  have nd := sc__law_none_right.nd
  exact ⟨gl, F.kp, bd, fun base => fnd_den (Sb := [2, 3]) F sc__law_none_right rfl (io_ok (by decide)) fun cd A out s0 H0 E room hG tk => ⟨_, (dss_cons (ds_set 2 (de_lst da_nil) nd)
    (dss_cons (ds_for (passes_of (by rfl)) (by rfl) (di_any (de_tup (da_cons de_int (da_cons (de_op op_sub s_sub (de_op op_shlW s_shl de_int (de_var 0)) de_int) da_nil)))) (dg_name 3 nd) (dss_cons (ds_try [("Impossible", true), ("InvalidBits", false), ("InvalidPlace", false)] rfl rfl (by rfl) xc_Impossible.gl xm_Impossible tk (fun W pn xe tk _ => ⟨_, (dss_one (ds_expr (de_bm 2 PySem.F.plainAttrs_list PySem.F.slot_list_append PySem.F.type_list_append mt_append ty_lst s_append (da_cons (de_callI h_sure_end room (by decide) hG tk (by rfl) (da_cons (de_var 0) (da_cons (de_var 1) (da_cons (de_var 3) da_nil)))) da_nil))))⟩) (fun a pn => ⟨_, (dss_one (ds_expr (de_bm 2 PySem.F.plainAttrs_list PySem.F.slot_list_append PySem.F.type_list_append mt_append ty_lst s_append (da_cons de_str da_nil))))⟩))
    (dss_one (ds_try [("Impossible", true), ("InvalidBits", false), ("InvalidPlace", false)] rfl rfl (by rfl) xc_Impossible.gl xm_Impossible tk (fun W pn xe tk _ => ⟨_, (dss_one (ds_expr (de_bm 2 PySem.F.plainAttrs_list PySem.F.slot_list_append PySem.F.type_list_append mt_append ty_lst s_append (da_cons (de_callI h_can_end room (by decide) hG tk (by rfl) (da_cons (de_var 0) (da_cons (de_var 1) (da_cons (de_var 3) (da_cons (de_var 3) da_nil))))) da_nil))))⟩) (fun a pn => ⟨_, (dss_one (ds_expr (de_bm 2 PySem.F.plainAttrs_list PySem.F.slot_list_append PySem.F.type_list_append mt_append ty_lst s_append (da_cons de_str da_nil))))⟩)))))
    (dss_one (ds_ret (de_and (de_cmp (op_eq2 (by exact room_64 room)) s_eq2 (de_var 2) (de_op o_mul s_mul (de_lst (da_cons de_str da_nil)) de_int)) (de_and (de_cmp op_isN s_isN (de_callI h_some_mapping room (by decide) hG tk (by rfl) (da_cons (de_var 0) (da_cons (de_var 1) da_nil))) de_non) (de_one (de_cmp op_notN s_notN (de_callI h_clash room (by decide) hG tk (by rfl) (da_cons (de_var 0) (da_cons (de_var 1) da_nil))) de_non))))))))⟩⟩
theorem sc__law_right : FnScope ["size", "pairs", "every", "kept", "lists_here", "told", "plan", "spot"] ["size", "pairs", "every"] (defScope st__law_right) := ⟨rfl, rfl, rfl, by decide +kernel, rfl, by decide +kernel, by decide +kernel⟩
theorem i__law_right {f : Addr} {fd : FuncData} (b : Bf mg)
  (hS : sysB K = true)
  (gl : mg "_law_right" = some (.ref f))
  (F : FunD K "_law_right" "_law_right" (defArgs st__law_right) (defBody st__law_right) (defScope st__law_right) [] [] f fd)
  {f_some_mapping : Addr} {fd_some_mapping : FuncData} (h_some_mapping : FnI P w K mg "some_mapping" 6 ["bits", "ways"] [.ln, .ln] d_some_mapping f_some_mapping fd_some_mapping)
  {f__law_agreeing : Addr} {fd__law_agreeing : FuncData} (h__law_agreeing : FnI P w K mg "_law_agreeing" 1 ["lists_here", "pairs"] [.fz, .ln] d__law_agreeing f__law_agreeing fd__law_agreeing)
  {f_agreeing_count : Addr} {fd_agreeing_count : FuncData} (h_agreeing_count : FnI P w K mg "agreeing_count" 6 ["bits", "ways"] [.ln, .ln] d_agreeing_count f_agreeing_count fd_agreeing_count)
  {f__law_sure_right : Addr} {fd__law_sure_right : FuncData} (h__law_sure_right : FnI P w K mg "_law_sure_right" 7 ["size", "pairs", "lists_here"] [.ln, .ln, .ln] d__law_sure_right_k52 f__law_sure_right fd__law_sure_right)
  {f__law_none_right : Addr} {fd__law_none_right : FuncData} (h__law_none_right : FnI P w K mg "_law_none_right" 7 ["size", "pairs"] [.ln, .ln] d__law_none_right_k52 f__law_none_right fd__law_none_right)
  {f_clash : Addr} {fd_clash : FuncData} (h_clash : FnI P w K mg "clash" 6 ["bits", "ways"] [.ln, .ln] d_clash f_clash fd_clash)
  {f__law_goal : Addr} {fd__law_goal : FuncData} (h__law_goal : FnI P w K mg "_law_goal" 2 ["plan", "spot"] [.fz, .ln] d__law_goal f__law_goal fd__law_goal)
  {f_agrees : Addr} {fd_agrees : FuncData} (h_agrees : FnI P w K mg "agrees" 5 ["mapping", "ways"] [.fz, .ln] d_agrees f_agrees fd_agrees)
  {f__law_spots : Addr} {fd__law_spots : FuncData} (h__law_spots : FnI P w K mg "_law_spots" 1 ["size"] [.ln] d__law_spots f__law_spots fd__law_spots)
  (z_agreeing_count_ways_bits : KB0 K fd_agreeing_count ["bits", "ways"] ["ways", "bits"] [0])
  (z_agrees_ways_mapping : KB0 K fd_agrees ["mapping", "ways"] ["ways", "mapping"] [0])
  (z_clash_ways_bits : KB0 K fd_clash ["bits", "ways"] ["ways", "bits"] [0])
  (z_some_mapping_ways_bits : KB0 K fd_some_mapping ["bits", "ways"] ["ways", "bits"] [0]) : FnI P w K mg "_law_right" 8 ["size", "pairs", "every"] [.ln, .ln, .fz] d__law_right_k52 f fd := by
  have bd : Binds K fd ["size", "pairs", "every"] [] := F.bindsN fun _ _ _ _ _ _ us hl => match us, hl with | [_, _, _], _ => rfl
  have nd := sc__law_right.nd
  exact ⟨gl, F.kp, bd, fun base => fnd_den (Sb := [3, 4, 5, 6]) F sc__law_right rfl (io_ok (by decide)) fun cd A out s0 H0 E room hG tk => ⟨_, (dss_cons (ds_par (by rfl) nd (by rfl) (by rfl) (by decide) (by rfl) (by rfl) (da_cons (de_cb (c_repr (by exact hG) (by exact hS) (by exact room_66 room)) s_repr (by rfl) b.repr bb_repr (da_consN (de_var 1) da_nil)) (da_cons (de_callI h__law_agreeing room (by decide) hG tk (by rfl) (da_cons (de_var 2) (da_cons (de_var 1) da_nil))) da_nil)) (by rfl))
    (dss_cons (ds_set 5 (de_lst (da_cons (de_callI h_agreeing_count room (by decide) hG tk (by rfl) (da_cons (de_var 0) (da_cons (de_var 1) da_nil))) (da_cons (de_callIS (ks := ["ways", "bits"]) h_agreeing_count z_agreeing_count_ways_bits room (by decide) hG tk (by rfl) (dk_cons (de_var 1) (dk_cons (de_var 0) dk_nil))) da_nil))) nd)
    (dss_cons (ds_if (dt_cmp (op_ne2 (by exact room_64 room)) s_ne2 (de_cb (c_repr (by exact hG) (by exact hS) (by exact room_66 room)) s_repr (by rfl) b.repr bb_repr (da_consN (de_var 5) da_nil)) (de_cb (c_repr (by exact hG) (by exact hS) (by exact room_66 room)) s_repr (by rfl) b.repr bb_repr (da_consN (de_op o_mul s_mul (de_lst (da_cons (de_cb c_len s_len (by rfl) b.len bb_len (da_consN (de_var 4) da_nil)) da_nil)) de_int) da_nil))) (dss_one (ds_ret de_bl)) dss_nil)
    (dss_cons (ds_if (dt_cmp (op_eq2 (by exact room_64 room)) s_eq2 (de_var 4) (de_lst da_nil)) (dss_one (ds_ret (de_and (de_callI h__law_none_right room (by decide) hG tk (by rfl) (da_cons (de_var 0) (da_cons (de_var 1) da_nil))) (de_one (de_cmp (op_eq2 (by exact room_64 room)) s_eq2 (de_cb (c_repr (by exact hG) (by exact hS) (by exact room_66 room)) s_repr (by rfl) b.repr bb_repr (da_consN (de_var 1) da_nil)) (de_var 3)))))) dss_nil)
    (dss_cons (ds_set 6 (de_callI h_some_mapping room (by decide) hG tk (by rfl) (da_cons (de_var 0) (da_cons (de_var 1) da_nil))) nd)
    (dss_cons (ds_if (DW.dt (dw_or (dt_cmp op_isN s_isN (de_var 6) de_non) (dw_or (dt_cmp op_notN s_notN (de_callIS (ks := ["ways", "bits"]) h_clash z_clash_ways_bits room (by decide) hG tk (by rfl) (dk_cons (de_var 1) (dk_cons (de_var 0) dk_nil))) de_non) (dw_or1 (dt_cmp (op_ne2 (by exact room_64 room)) s_ne2 (de_cb c_len s_len (by rfl) b.len bb_len (da_consN (de_ix (by exact room_1 room) (de_var 6) de_int) da_nil)) (de_var 0)))))) (dss_one (ds_ret de_bl)) dss_nil)
    (dss_cons (ds_if (dt_cmp (op_notInX (by exact room_65 room)) s_notIn (de_lcX (own := [("spot", 7)]) (by rfl) nd (di_any (de_callI h__law_spots room (by decide) hG tk (by rfl) (da_cons (de_var 0) da_nil))) (blkOk_by (N := ["size", "pairs", "every", "kept", "lists_here", "told", "plan", "spot"]) (sc := defScope st__law_right) (by decide +kernel)) (fun _ _ _ _ _ => ⟨_, (dg_name 7 nd)⟩) (fun _ _ _ _ _ => ⟨_, dif_nil⟩) (fun _ _ _ _ _ => ⟨_, (de_callI h__law_goal room (by decide) hG takes0 (by rfl) (da_cons (de_var 6) (da_cons (de_var 7) da_nil)))⟩)) (de_var 4)) (dss_one (ds_ret de_bl)) dss_nil)
    (dss_cons (ds_if (DW.dt (dw_or (dt_cmp op_notB s_notB (de_callI h_agrees room (by decide) hG tk (by rfl) (da_cons (de_var 6) (da_cons (de_var 1) da_nil))) de_bl) (dw_or1 (dt_cmp op_notB s_notB (de_callIS (ks := ["ways", "mapping"]) h_agrees z_agrees_ways_mapping room (by decide) hG tk (by rfl) (dk_cons (de_op o_add s_add (de_var 1) (de_lst (da_cons (de_tup (da_cons de_int (da_cons (de_callI h__law_goal room (by decide) hG tk (by rfl) (da_cons (de_var 6) (da_cons de_int da_nil))) da_nil))) da_nil))) (dk_cons (de_var 6) dk_nil))) de_bl)))) (dss_one (ds_ret de_bl)) dss_nil)
    (dss_cons (ds_if (dt_cmp (op_ne2 (by exact room_64 room)) s_ne2 (de_cb (c_repr (by exact hG) (by exact hS) (by exact room_66 room)) s_repr (by rfl) b.repr bb_repr (da_consN (de_callIS (ks := ["ways", "bits"]) h_some_mapping z_some_mapping_ways_bits room (by decide) hG tk (by rfl) (dk_cons (de_var 1) (dk_cons (de_var 0) dk_nil))) da_nil)) (de_cb (c_repr (by exact hG) (by exact hS) (by exact room_66 room)) s_repr (by rfl) b.repr bb_repr (da_consN (de_var 6) da_nil))) (dss_one (ds_ret de_bl)) dss_nil)
    (dss_one (ds_ret (de_and (de_callI h__law_sure_right room (by decide) hG tk (by rfl) (da_cons (de_var 0) (da_cons (de_var 1) (da_cons (de_var 4) da_nil)))) (de_one (de_cmp (op_eq2 (by exact room_64 room)) s_eq2 (de_cb (c_repr (by exact hG) (by exact hS) (by exact room_66 room)) s_repr (by rfl) b.repr bb_repr (da_consN (de_var 1) da_nil)) (de_var 3)))))))))))))))⟩⟩
theorem sc_law : FnScope ["script", "known", "k", "cell", "source", "sizes", "size", "every"] ["script"] (defScope st_law) := ⟨rfl, rfl, rfl, by decide +kernel, rfl, by decide +kernel, by decide +kernel⟩
theorem i_law {f : Addr} {fd : FuncData} (b : Bf mg)
  (hS : sysB K = true)
  (gl : mg "law" = some (.ref f))
  (F : FunD K "law" "law" (defArgs st_law) (defBody st_law) (defScope st_law) [] [] f fd)
  {f__law_every : Addr} {fd__law_every : FuncData} (h__law_every : FnI P w K mg "_law_every" 2 ["size"] [.ln] d__law_every f__law_every fd__law_every)
  {f__law_source : Addr} {fd__law_source : FuncData} (h__law_source : FnI P w K mg "_law_source" 1 ["cell", "k"] [.ln, .ln] d__law_source f__law_source fd__law_source)
  {f__law_right : Addr} {fd__law_right : FuncData} (h__law_right : FnI P w K mg "_law_right" 8 ["size", "pairs", "every"] [.ln, .ln, .fz] d__law_right_k52 f__law_right fd__law_right)
  {f__law_pairs : Addr} {fd__law_pairs : FuncData} (h__law_pairs : FnI P w K mg "_law_pairs" 2 ["source", "size", "many", "lists_here"] [.io, .ln, .ln, .ln] d__law_pairs_k52 f__law_pairs fd__law_pairs)
  {f__law_draw : Addr} {fd__law_draw : FuncData} (h__law_draw : FnI P w K mg "_law_draw" 1 ["source", "count"] [.io, .ln] d__law_draw f__law_draw fd__law_draw) : FnI P w K mg "law" 9 ["script"] [.fz] d_law_k52 f fd := by
  have bd : Binds K fd ["script"] [] := F.bindsN fun _ _ _ _ _ _ us hl => match us, hl with | [_], _ => rfl
  have nd := sc_law.nd
  exact ⟨gl, F.kp, bd, fun base => fnd_den (Sb := [1, 2, 3, 4, 5, 6, 7]) F sc_law rfl (io_ok (by decide)) fun cd A out s0 H0 E room hG tk => ⟨_, (dss_cons (ds_setLcX (own := [("size", 6)]) (by rfl) nd (by rfl) (by rfl) (by rfl) (di_any (de_if (dt_cmp (op_eq2 (by exact room_64 room)) s_eq2 (de_var 0) (de_lst da_nil)) (de_lst (da_cons de_int (da_cons de_int da_nil))) (de_lst (da_cons de_int (da_cons de_int (da_cons de_int da_nil)))))) (blkOk_by (N := ["script", "known", "k", "cell", "source", "sizes", "size", "every"]) (sc := defScope st_law) (by decide +kernel)) (fun _ _ _ _ _ => ⟨_, (dg_name 6 nd)⟩) (fun _ _ _ _ _ => ⟨_, dif_nil⟩) (fun _ _ _ _ _ => ⟨_, (de_callI h__law_every room (by decide) hG takes0 (by rfl) (da_cons (de_var 6) da_nil))⟩))
    (dss_cons (ds_for (passes_of (by rfl)) (by rfl) (di_enum (by rfl) b.enumerate (da_cons (de_sl (de_op o_add s_add (de_var 0) (de_lst (da_cons de_int da_nil))) dp_none (dp_some (de_cb (c_max (by rfl)) s_max (by rfl) b.max bb_max (da_consN de_int (da_consN (de_cb (c_min (by rfl)) s_min (by rfl) b.min bb_min (da_consN (de_cb c_len s_len (by rfl) b.len bb_len (da_consN (de_var 0) da_nil)) (da_consN de_int da_nil))) da_nil))))) da_nil)) (dg_tup (by rfl) (dgn_cons 2 nd (dgn_cons 3 nd dgn_nil))) (dss_cons (ds_set 4 (de_callI h__law_source room (by decide) hG tk (by rfl) (da_cons (de_var 3) (da_cons (de_var 2) da_nil))) nd)
    (dss_cons (ds_set 5 (de_op o_add s_add (de_lst (da_cons de_int (da_cons de_int (da_cons de_int da_nil)))) (de_op o_mul s_mul (de_lst (da_cons de_int da_nil)) (de_ct call_int1 s_int (by rfl) b.int bb_int (da_consN (de_and (de_cmp (op_eq2 (by exact room_64 room)) s_eq2 (de_var 2) de_int) (de_one (de_cmp (op_ne2 (by exact room_64 room)) s_ne2 (de_var 0) (de_lst da_nil)))) da_nil)))) nd)
    (dss_one (ds_lend 5 (ds_for (passes_of (by rfl)) (by rfl) (di_ln 5) (dg_name 6 nd) (dss_cons (ds_set 7 (de_ix (by exact room_1 room) (de_var 1) (de_op op_sub s_sub (de_var 6) de_int)) nd)
    (dss_one (ds_if (dt_not (dt_truth (de_callI h__law_right room (by decide) hG tk (by rfl) (da_cons (de_var 6) (da_cons (de_callI h__law_pairs room (by decide) hG tk (by rfl) (da_cons (de_var 4) (da_cons (de_var 6) (da_cons (de_callI h__law_draw room (by decide) hG tk (by rfl) (da_cons (de_var 4) (da_cons de_int da_nil))) (da_cons (de_var 7) da_nil))))) (da_cons (de_var 7) da_nil)))))) (dss_one (ds_ret de_bl)) dss_nil)))))))))
    (dss_one (ds_ret (de_cmp (op_eq2 (by exact room_64 room)) s_eq2 (de_lend 1 (de_lcX (own := [("every", 7)]) (by rfl) nd (di_ln 1) (blkOk_by (N := ["script", "known", "k", "cell", "source", "sizes", "size", "every"]) (sc := defScope st_law) (by decide +kernel)) (fun _ _ _ _ _ => ⟨_, (dg_name 7 nd)⟩) (fun _ _ _ _ _ => ⟨_, dif_nil⟩) (fun _ _ _ _ _ => ⟨_, (de_cb c_len s_len (by rfl) b.len bb_len (da_consN (de_var 7) da_nil))⟩))) (de_sl (de_lst (da_cons de_int (da_cons de_int (da_cons de_int da_nil)))) dp_none (dp_some (de_cb c_len s_len (by rfl) b.len bb_len (da_consN (de_var 1) da_nil)))))))))⟩⟩
end
theorem facts {P : Program} {w : World} {K : PySem.W.Frag} {h : Heap} {mg : Str → Option Value} {f : Addr} (X : K.In h) (G : h.Ns mainGlobals mg) (hfa : mg ("law" : Str) = some (.ref f)) (c : He.SaysD fa fn K) (hS : sysB K = true) :
    ∃ fd : FuncData, (∀ (s : Shared) (v : Value), BindsTo s fd ⟨[v], []⟩ [("script", v)]) ∧ ∀ base : Heap, FnG P w K mg base 9 f fd ["script"] (spM K [.fz] d_law_k52) := by
  have b : Bf mg := bf_of X G fun f hf => says_all c f (by unfold fa; exact List.mem_append_right _ hf)
  have xc_Impossible : ExF K mg "Impossible" := ExF.mk2 (He.glo_ok X G (c.fact 49 (f := .glo "Impossible") rfl)) (He.exc_ok (c.fact 50 (f := .exc "Impossible") rfl))
  have xc_InvalidBits : ExF K mg "InvalidBits" := ExF.mk2 (He.glo_ok X G (c.fact 51 (f := .glo "InvalidBits") rfl)) (He.exc_ok (c.fact 52 (f := .exc "InvalidBits") rfl))
  have xc_InvalidPlace : ExF K mg "InvalidPlace" := ExF.mk2 (He.glo_ok X G (c.fact 53 (f := .glo "InvalidPlace") rfl)) (He.exc_ok (c.fact 54 (f := .exc "InvalidPlace") rfl))
  have xm_Impossible : ∀ p ∈ ([("Impossible", true), ("InvalidBits", false), ("InvalidPlace", false)] : List (Str × Bool)), PySem.W.exmOne K (.ref (He.ga K p.1)) (.ref (He.ga K "Impossible")) = some p.2 := (exm_cons (He.exm_ok (c.fact 55 (f := .exm "Impossible" "Impossible" true) rfl)) (exm_cons (He.exm_ok (c.fact 56 (f := .exm "InvalidBits" "Impossible" false) rfl)) (exm_cons (He.exm_ok (c.fact 57 (f := .exm "InvalidPlace" "Impossible" false) rfl)) exm_nil)))
  obtain ⟨fd_is_integer, F_is_integer⟩ := c.def_ 0 (d := D_is_integer) rfl
  have g_is_integer := He.glo_ok X G (c.fact 0 (f := .glo "is_integer") rfl)
  obtain ⟨fd_need_few, F_need_few⟩ := c.def_ 1 (d := D_need_few) rfl
  have g_need_few := He.glo_ok X G (c.fact 1 (f := .glo "need_few") rfl)
  obtain ⟨fd_parity, F_parity⟩ := c.def_ 2 (d := D_parity) rfl
  have g_parity := He.glo_ok X G (c.fact 2 (f := .glo "parity") rfl)
  obtain ⟨fd_bits_of, F_bits_of⟩ := c.def_ 3 (d := D_bits_of) rfl
  have g_bits_of := He.glo_ok X G (c.fact 3 (f := .glo "bits_of") rfl)
  obtain ⟨fd_mask_of, F_mask_of⟩ := c.def_ 4 (d := D_mask_of) rfl
  have g_mask_of := He.glo_ok X G (c.fact 4 (f := .glo "mask_of") rfl)
  obtain ⟨fd_reduced, F_reduced⟩ := c.def_ 5 (d := D_reduced) rfl
  have g_reduced := He.glo_ok X G (c.fact 5 (f := .glo "reduced") rfl)
  obtain ⟨fd_put_together, F_put_together⟩ := c.def_ 6 (d := D_put_together) rfl
  have g_put_together := He.glo_ok X G (c.fact 6 (f := .glo "put_together") rfl)
  obtain ⟨fd_marked, F_marked⟩ := c.def_ 7 (d := D_marked) rfl
  have g_marked := He.glo_ok X G (c.fact 7 (f := .glo "marked") rfl)
  obtain ⟨fd__law_source, F__law_source⟩ := c.def_ 8 (d := D__law_source) rfl
  have g__law_source := He.glo_ok X G (c.fact 8 (f := .glo "_law_source") rfl)
  obtain ⟨fd__law_draw, F__law_draw⟩ := c.def_ 9 (d := D__law_draw) rfl
  have g__law_draw := He.glo_ok X G (c.fact 9 (f := .glo "_law_draw") rfl)
  obtain ⟨fd__law_odd, F__law_odd⟩ := c.def_ 10 (d := D__law_odd) rfl
  have g__law_odd := He.glo_ok X G (c.fact 10 (f := .glo "_law_odd") rfl)
  obtain ⟨fd__law_spots, F__law_spots⟩ := c.def_ 11 (d := D__law_spots) rfl
  have g__law_spots := He.glo_ok X G (c.fact 11 (f := .glo "_law_spots") rfl)
  obtain ⟨fd__law_agreeing, F__law_agreeing⟩ := c.def_ 12 (d := D__law_agreeing) rfl
  have g__law_agreeing := He.glo_ok X G (c.fact 12 (f := .glo "_law_agreeing") rfl)
  obtain ⟨fd_need_bits, F_need_bits⟩ := c.def_ 13 (d := D_need_bits) rfl
  have g_need_bits := He.glo_ok X G (c.fact 13 (f := .glo "need_bits") rfl)
  obtain ⟨fd_is_place, F_is_place⟩ := c.def_ 14 (d := D_is_place) rfl
  have g_is_place := He.glo_ok X G (c.fact 14 (f := .glo "is_place") rfl)
  obtain ⟨fd_eliminated, F_eliminated⟩ := c.def_ 15 (d := D_eliminated) rfl
  have g_eliminated := He.glo_ok X G (c.fact 15 (f := .glo "eliminated") rfl)
  obtain ⟨fd_moved, F_moved⟩ := c.def_ 16 (d := D_moved) rfl
  have g_moved := He.glo_ok X G (c.fact 16 (f := .glo "moved") rfl)
  obtain ⟨fd_columns_of, F_columns_of⟩ := c.def_ 17 (d := D_columns_of) rfl
  have g_columns_of := He.glo_ok X G (c.fact 17 (f := .glo "columns_of") rfl)
  obtain ⟨fd_begins_of, F_begins_of⟩ := c.def_ 18 (d := D_begins_of) rfl
  have g_begins_of := He.glo_ok X G (c.fact 18 (f := .glo "begins_of") rfl)
  obtain ⟨fd_ends_of, F_ends_of⟩ := c.def_ 19 (d := D_ends_of) rfl
  have g_ends_of := He.glo_ok X G (c.fact 19 (f := .glo "ends_of") rfl)
  obtain ⟨fd__law_goal, F__law_goal⟩ := c.def_ 20 (d := D__law_goal) rfl
  have g__law_goal := He.glo_ok X G (c.fact 20 (f := .glo "_law_goal") rfl)
  obtain ⟨fd__law_every, F__law_every⟩ := c.def_ 21 (d := D__law_every) rfl
  have g__law_every := He.glo_ok X G (c.fact 21 (f := .glo "_law_every") rfl)
  obtain ⟨fd__law_pairs, F__law_pairs⟩ := c.def_ 22 (d := D__law_pairs) rfl
  have g__law_pairs := He.glo_ok X G (c.fact 22 (f := .glo "_law_pairs") rfl)
  obtain ⟨fd_need_place, F_need_place⟩ := c.def_ 23 (d := D_need_place) rfl
  have g_need_place := He.glo_ok X G (c.fact 23 (f := .glo "need_place") rfl)
  obtain ⟨fd_rank_of, F_rank_of⟩ := c.def_ 24 (d := D_rank_of) rfl
  have g_rank_of := He.glo_ok X G (c.fact 24 (f := .glo "rank_of") rfl)
  obtain ⟨fd_mapping_fault, F_mapping_fault⟩ := c.def_ 25 (d := D_mapping_fault) rfl
  have g_mapping_fault := He.glo_ok X G (c.fact 25 (f := .glo "mapping_fault") rfl)
  obtain ⟨fd_behind, F_behind⟩ := c.def_ 26 (d := D_behind) rfl
  have g_behind := He.glo_ok X G (c.fact 26 (f := .glo "behind") rfl)
  obtain ⟨fd_back, F_back⟩ := c.def_ 27 (d := D_back) rfl
  have g_back := He.glo_ok X G (c.fact 27 (f := .glo "back") rfl)
  obtain ⟨fd_is_way, F_is_way⟩ := c.def_ 28 (d := D_is_way) rfl
  have g_is_way := He.glo_ok X G (c.fact 28 (f := .glo "is_way") rfl)
  obtain ⟨fd_clash_of, F_clash_of⟩ := c.def_ 29 (d := D_clash_of) rfl
  have g_clash_of := He.glo_ok X G (c.fact 29 (f := .glo "clash_of") rfl)
  obtain ⟨fd_completed, F_completed⟩ := c.def_ 30 (d := D_completed) rfl
  have g_completed := He.glo_ok X G (c.fact 30 (f := .glo "completed") rfl)
  obtain ⟨fd_need_mapping, F_need_mapping⟩ := c.def_ 31 (d := D_need_mapping) rfl
  have g_need_mapping := He.glo_ok X G (c.fact 31 (f := .glo "need_mapping") rfl)
  obtain ⟨fd_need_ways, F_need_ways⟩ := c.def_ 32 (d := D_need_ways) rfl
  have g_need_ways := He.glo_ok X G (c.fact 32 (f := .glo "need_ways") rfl)
  obtain ⟨fd_mapping_with, F_mapping_with⟩ := c.def_ 33 (d := D_mapping_with) rfl
  have g_mapping_with := He.glo_ok X G (c.fact 33 (f := .glo "mapping_with") rfl)
  obtain ⟨fd_need_agreeing, F_need_agreeing⟩ := c.def_ 34 (d := D_need_agreeing) rfl
  have g_need_agreeing := He.glo_ok X G (c.fact 34 (f := .glo "need_agreeing") rfl)
  obtain ⟨fd_need_both, F_need_both⟩ := c.def_ 35 (d := D_need_both) rfl
  have g_need_both := He.glo_ok X G (c.fact 35 (f := .glo "need_both") rfl)
  obtain ⟨fd_agrees, F_agrees⟩ := c.def_ 36 (d := D_agrees) rfl
  have g_agrees := He.glo_ok X G (c.fact 36 (f := .glo "agrees") rfl)
  obtain ⟨fd_some_mapping, F_some_mapping⟩ := c.def_ 37 (d := D_some_mapping) rfl
  have g_some_mapping := He.glo_ok X G (c.fact 37 (f := .glo "some_mapping") rfl)
  obtain ⟨fd_clash, F_clash⟩ := c.def_ 38 (d := D_clash) rfl
  have g_clash := He.glo_ok X G (c.fact 38 (f := .glo "clash") rfl)
  obtain ⟨fd_agreeing_count, F_agreeing_count⟩ := c.def_ 39 (d := D_agreeing_count) rfl
  have g_agreeing_count := He.glo_ok X G (c.fact 39 (f := .glo "agreeing_count") rfl)
  obtain ⟨fd_sure_end, F_sure_end⟩ := c.def_ 40 (d := D_sure_end) rfl
  have g_sure_end := He.glo_ok X G (c.fact 40 (f := .glo "sure_end") rfl)
  obtain ⟨fd_can_end, F_can_end⟩ := c.def_ 41 (d := D_can_end) rfl
  have g_can_end := He.glo_ok X G (c.fact 41 (f := .glo "can_end") rfl)
  obtain ⟨fd__law_sure_right, F__law_sure_right⟩ := c.def_ 42 (d := D__law_sure_right) rfl
  have g__law_sure_right := He.glo_ok X G (c.fact 42 (f := .glo "_law_sure_right") rfl)
  obtain ⟨fd__law_none_right, F__law_none_right⟩ := c.def_ 43 (d := D__law_none_right) rfl
  have g__law_none_right := He.glo_ok X G (c.fact 43 (f := .glo "_law_none_right") rfl)
  obtain ⟨fd__law_right, F__law_right⟩ := c.def_ 44 (d := D__law_right) rfl
  have g__law_right := He.glo_ok X G (c.fact 44 (f := .glo "_law_right") rfl)
  obtain ⟨fd_law, F_law⟩ := c.def_ 45 (d := D_law) rfl
  have g_law := He.glo_ok X G (c.fact 45 (f := .glo "law") rfl)
  have k_MOST_BITS := He.int_ok X G (c.fact 46 (f := .int "MOST_BITS" 60) rfl)
  have k_MOST_WAYS := He.int_ok X G (c.fact 47 (f := .int "MOST_WAYS" 100) rfl)
  have k_MOST_COUNTED := He.int_ok X G (c.fact 48 (f := .int "MOST_COUNTED" 50) rfl)
  have h_is_integer := i_is_integer (P := P) (w := w) b hS g_is_integer F_is_integer
  have h_need_few := i_need_few (P := P) (w := w) b hS g_need_few F_need_few
  have h_parity := i_parity (P := P) (w := w) b hS g_parity F_parity
  have h_bits_of := i_bits_of (P := P) (w := w) b hS g_bits_of F_bits_of
  have h_mask_of := i_mask_of (P := P) (w := w) b hS g_mask_of F_mask_of
  have h_reduced := i_reduced (P := P) (w := w) b hS g_reduced F_reduced
  have h_put_together := i_put_together (P := P) (w := w) b hS g_put_together F_put_together
  have h_marked := i_marked (P := P) (w := w) b hS g_marked F_marked
  have h__law_source := i__law_source (P := P) (w := w) b hS g__law_source F__law_source
  have h__law_draw := i__law_draw (P := P) (w := w) b hS g__law_draw F__law_draw
  have h__law_odd := i__law_odd (P := P) (w := w) b hS g__law_odd F__law_odd
  have h__law_spots := i__law_spots (P := P) (w := w) b hS g__law_spots F__law_spots
  have h__law_agreeing := i__law_agreeing (P := P) (w := w) b hS g__law_agreeing F__law_agreeing
  have h_need_bits := i_need_bits (P := P) (w := w) b hS g_need_bits F_need_bits k_MOST_BITS h_is_integer xc_InvalidBits
  have h_is_place := i_is_place (P := P) (w := w) b hS g_is_place F_is_place h_is_integer
  have h_eliminated := i_eliminated (P := P) (w := w) b hS g_eliminated F_eliminated h_reduced
  have h_moved := i_moved (P := P) (w := w) b hS g_moved F_moved h_parity
  have h_columns_of := i_columns_of (P := P) (w := w) b hS g_columns_of F_columns_of h_mask_of
  have h_begins_of := i_begins_of (P := P) (w := w) b hS g_begins_of F_begins_of h_marked
  have h_ends_of := i_ends_of (P := P) (w := w) b hS g_ends_of F_ends_of h_marked
  have h__law_goal := i__law_goal (P := P) (w := w) b hS g__law_goal F__law_goal h__law_odd
  have h__law_every := i__law_every (P := P) (w := w) b hS g__law_every F__law_every h__law_odd
  have h__law_pairs := i__law_pairs (P := P) (w := w) b hS g__law_pairs F__law_pairs h__law_draw
  have h_need_place := i_need_place (P := P) (w := w) b hS g_need_place F_need_place h_is_place xc_InvalidPlace
  have h_rank_of := i_rank_of (P := P) (w := w) b hS g_rank_of F_rank_of h_eliminated
  have h_mapping_fault := i_mapping_fault (P := P) (w := w) b hS g_mapping_fault F_mapping_fault k_MOST_BITS h_is_place h_reduced
  have h_behind := i_behind (P := P) (w := w) b hS g_behind F_behind h_moved h_put_together h_bits_of
  have h_back := i_back (P := P) (w := w) b hS g_back F_back h_eliminated h_moved h_reduced
  have h_is_way := i_is_way (P := P) (w := w) b hS g_is_way F_is_way h_is_place
  have h_clash_of := i_clash_of (P := P) (w := w) b hS g_clash_of F_clash_of h_begins_of h_ends_of h_eliminated h_put_together h_bits_of
  have h_completed := i_completed (P := P) (w := w) b hS g_completed F_completed h_eliminated
  have h_need_mapping := i_need_mapping (P := P) (w := w) b hS g_need_mapping F_need_mapping h_mapping_fault
  have h_need_ways := i_need_ways (P := P) (w := w) b hS g_need_ways F_need_ways k_MOST_WAYS h_is_way
  have h_mapping_with := i_mapping_with (P := P) (w := w) b hS g_mapping_with F_mapping_with h_behind h_reduced h_columns_of h_back h_moved h_completed
  have h_need_agreeing := i_need_agreeing (P := P) (w := w) b hS g_need_agreeing F_need_agreeing h_clash_of xc_Impossible
  have h_need_both := i_need_both (P := P) (w := w) b hS g_need_both F_need_both h_need_bits h_need_ways
  have z_agrees_ways_mapping := z_agrees_ways_mapping F_agrees
  have h_agrees := i_agrees (P := P) (w := w) b hS g_agrees F_agrees h_need_mapping h_need_ways h_moved
  have z_some_mapping_ways_bits := z_some_mapping_ways_bits F_some_mapping
  have h_some_mapping := i_some_mapping (P := P) (w := w) b hS g_some_mapping F_some_mapping h_need_both h_mapping_with h_clash_of
  have z_clash_ways_bits := z_clash_ways_bits F_clash
  have h_clash := i_clash (P := P) (w := w) b hS g_clash F_clash h_need_both h_clash_of
  have z_agreeing_count_ways_bits := z_agreeing_count_ways_bits F_agreeing_count
  have h_agreeing_count := i_agreeing_count (P := P) (w := w) b hS g_agreeing_count F_agreeing_count k_MOST_COUNTED h_need_both h_need_few h_rank_of h_clash_of h_begins_of
  have z_sure_end_place_ways_bits := z_sure_end_place_ways_bits F_sure_end
  have h_sure_end := i_sure_end (P := P) (w := w) b hS g_sure_end F_sure_end h_need_both h_need_place h_need_agreeing h_reduced h_put_together h_eliminated h_bits_of h_begins_of
  have z_can_end_end_place_ways_bits := z_can_end_end_place_ways_bits F_can_end
  have h_can_end := i_can_end (P := P) (w := w) b hS g_can_end F_can_end h_need_both h_need_place h_need_agreeing h_clash_of
  have h__law_sure_right := i__law_sure_right (P := P) (w := w) b hS g__law_sure_right F__law_sure_right h__law_spots h_can_end h_sure_end z_can_end_end_place_ways_bits z_sure_end_place_ways_bits
  have h__law_none_right := i__law_none_right (P := P) (w := w) b hS g__law_none_right F__law_none_right h_some_mapping h_clash h_sure_end h_can_end xc_Impossible xm_Impossible
  have h__law_right := i__law_right (P := P) (w := w) b hS g__law_right F__law_right h_some_mapping h__law_agreeing h_agreeing_count h__law_sure_right h__law_none_right h_clash h__law_goal h_agrees h__law_spots z_agreeing_count_ways_bits z_agrees_ways_mapping z_clash_ways_bits z_some_mapping_ways_bits
  have h_law := i_law (P := P) (w := w) b hS g_law F_law h__law_every h__law_source h__law_right h__law_pairs h__law_draw
  have e := hfa.symm.trans g_law
  cases e
  have bs := FunD.bindsA (ps := ["script"]) F_law fun _ _ _ _ _ _ us hl => match us, hl with | [_], _ => rfl
  exact ⟨fd_law, fun s v => bs s [v] rfl, fun base => h_law.ok base⟩
end K52
open PySem PySem.W PySem.Calls PyProof.Rows in
set_option maxHeartbeats 0 in
theorem K52.holds_of (hm : ∀ ns : List Int, ns.length ≤ 63 → PG.d_law_k52 [.lst (ns.map DN.D.int)] = .ok [] (.fz (.bl true))) : PySem.Challenge.rw_bitstages_k52_seen_ways_by_listing.Holds := by
  w_on; o_law
  refine HandSHeadRun.head_any (r := OpenLaw.row PySem.Challenge.rw_bitstages_k52_seen_ways_by_listing) (q := view (OpenLaw.row PySem.Challenge.rw_bitstages_k52_seen_ways_by_listing).prog [61]) (H := K52.hk) (ob := K52.ob) (M := 8000) (loose := K52.loose) (d := HandSHeadRun.topDef (OpenLaw.row PySem.Challenge.rw_bitstages_k52_seen_ways_by_listing).prog 61) (kwd := []) K52.ob_eq
    (by kernel_rfl) (fun s => by kernel_rfl) K52.run (by kernel_rfl) (by kernel_rfl) (by kernel_rfl) (by rfl) (by first | assumption | decide +kernel) (by decide +kernel) ⟨rfl, rfl, rfl, rfl, rfl, by decide +kernel⟩ ?hw ?hc
  case hw => w_witness2
  case hc =>
    refine DN.walk_den (l := PySem.Challenge.rw_bitstages_k52_seen_ways_by_listing) (n := 63) (k := 9) (x := "script") (m := PG.d_law_k52) rfl (by decide) (by kernel_rfl) ⟨rfl, by decide, by decide⟩ ?F hm
    intro w mg fa h Y G hmg0
    obtain ⟨K, KX, c, hS⟩ := Y
    have hmg : mg ("law" : PySem.Str) = some (.ref fa) := by
      have e : (HandSHeadRun.topDef (OpenLaw.row PySem.Challenge.rw_bitstages_k52_seen_ways_by_listing).prog 61).name = ("law" : PySem.Str) := by kernel_rfl
      rw [← e]
      exact hmg0
    obtain ⟨fd, hb, hF⟩ := K52.facts (P := (PySem.Challenge.rw_bitstages_k52_seen_ways_by_listing).prog) (w := w) KX G hmg c hS
    exact ⟨K, fd, KX, hb, hF⟩
namespace Gf
theorem nodup_le : ∀ {n : Nat} {l : List Nat}, l.Nodup → (∀ x ∈ l, x < n) → l.length ≤ n
  | 0, l, h, q => by
    cases l with
    | nil => exact Nat.le_refl _
    | cons x l => exact absurd (q x List.mem_cons_self) (Nat.not_lt_zero x)
  | n + 1, l, h, q => by
    by_cases hn : n ∈ l
    · have h1 := nodup_le (n := n) (h.erase n) fun x hx => by
        obtain ⟨h2, h3⟩ := (h.mem_erase_iff).mp hx
        have := q x h3
        omega
      rw [List.length_erase_of_mem hn] at h1
      omega
    · have h1 := nodup_le (n := n) h fun x hx => by
        have := q x hx
        have : x ≠ n := fun e => hn (e ▸ hx)
        omega
      omega
theorem xor_c (a b : Nat) : a ^^^ b ^^^ a = b := by rw [Nat.xor_comm a b, Nat.xor_assoc, Nat.xor_self, Nat.xor_zero]
theorem xor_d (a b : Nat) : a ^^^ b ^^^ b = a := by rw [Nat.xor_assoc, Nat.xor_self, Nat.xor_zero]
theorem xor_4 (a b c d : Nat) : a ^^^ b ^^^ (c ^^^ d) = a ^^^ c ^^^ (b ^^^ d) := by
  rw [Nat.xor_assoc, Nat.xor_assoc, xor_l b c d]
theorem xor_eq_zero {a b : Nat} : a ^^^ b = 0 ↔ a = b := by
  constructor
  · intro h
    have := xor_x a b
    rw [h, Nat.xor_zero] at this
    exact this
  · rintro rfl; exact Nat.xor_self a
/-- the exclusive or of the masks whose indices are the bits of a number -/
def sel : List Nat → Nat → Nat
  | [], _ => 0
  | m :: ms, p => (if p.testBit 0 = true then m else 0) ^^^ sel ms (p / 2)
theorem sel_xor : ∀ (ms : List Nat) (p q : Nat), sel ms (p ^^^ q) = sel ms p ^^^ sel ms q
  | [], _, _ => by simp [sel]
  | m :: ms, p, q => by
    rw [sel, sel, sel, Nat.xor_div_two, sel_xor ms, Nat.testBit_xor, xor_4]
    congr 1
    cases p.testBit 0 <;> cases q.testBit 0 <;> simp
theorem sel_zero : ∀ ms : List Nat, sel ms 0 = 0
  | [] => rfl
  | m :: ms => by rw [sel, sel_zero ms]; simp
theorem sel_snoc : ∀ (ms : List Nat) (m p : Nat), sel (ms ++ [m]) p = sel ms p ^^^ (if p.testBit ms.length = true then m else 0)
  | [], m, p => by rw [List.nil_append, sel, sel, sel]; simp
  | x :: ms, m, p => by
    rw [List.cons_append, sel, sel, sel_snoc ms, Nat.xor_assoc, List.length_cons, Nat.testBit_succ]
theorem sel_small {ms : List Nat} {m p : Nat} (h : p < 2 ^ ms.length) : sel (ms ++ [m]) p = sel ms p := by
  rw [sel_snoc, Nat.testBit_lt_two_pow h]
  simp
theorem sel_pow : ∀ (ms : List Nat) (i : Nat) (h : i < ms.length), sel ms (2 ^ i) = ms[i]
  | m :: ms, 0, _ => by
    rw [sel, show (2 ^ 0 : Nat) / 2 = 0 from rfl, sel_zero]
    simp
  | m :: ms, i + 1, h => by
    have e : 2 ^ (i + 1) / 2 = 2 ^ i := by rw [Nat.pow_succ, Nat.mul_div_cancel _ (by decide)]
    rw [sel, e, sel_pow ms i (by simpa using h)]
    simp
theorem sel_span : ∀ (ms : List Nat) (p : Nat), Span ms (sel ms p)
  | [], _ => .nil
  | m :: ms, p => by
    rw [sel]
    split
    · exact .inn (sel_span ms _)
    · rw [Nat.zero_xor]; exact .out (sel_span ms _)
theorem span_sel : ∀ {ms : List Nat} {x : Nat}, Span ms x → ∃ p, p < 2 ^ ms.length ∧ sel ms p = x
  | _, _, .nil => ⟨0, by decide, rfl⟩
  | _, _, .out (m := m) (ms := ms) h => by
    obtain ⟨p, h1, h2⟩ := span_sel h
    refine ⟨2 * p, by rw [List.length_cons, Nat.pow_succ]; omega, ?_⟩
    rw [sel, show 2 * p / 2 = p by omega, h2, Nat.testBit_zero, show 2 * p % 2 = 0 by omega]
    simp
  | _, _, .inn (m := m) (ms := ms) h => by
    obtain ⟨p, h1, h2⟩ := span_sel h
    refine ⟨2 * p + 1, by rw [List.length_cons, Nat.pow_succ]; omega, ?_⟩
    rw [sel, show (2 * p + 1) / 2 = p by omega, h2, Nat.testBit_zero, show (2 * p + 1) % 2 = 1 by omega]
    simp
/-- pairs put together -/
inductive SpanP : List (Nat × Nat) → Nat → Nat → Prop where
  | nil : SpanP [] 0 0
  | out {m ms x y} : SpanP ms x y → SpanP (m :: ms) x y
  | inn {m ms x y} : SpanP ms x y → SpanP (m :: ms) (m.1 ^^^ x) (m.2 ^^^ y)
theorem SpanP.zero : ∀ L : List (Nat × Nat), SpanP L 0 0
  | [] => .nil
  | _ :: L => .out (SpanP.zero L)
theorem SpanP.cast {L : List (Nat × Nat)} {x y x' y' : Nat} (h : SpanP L x y) (e : x = x') (f : y = y') : SpanP L x' y' := by subst e; subst f; exact h
theorem SpanP.xor : ∀ {L : List (Nat × Nat)} {x y x' y' : Nat}, SpanP L x y → SpanP L x' y' → SpanP L (x ^^^ x') (y ^^^ y')
  | _, _, _, _, _, .nil, .nil => .nil
  | _, _, _, _, _, .out a, .out b => .out (SpanP.xor a b)
  | _, _, _, _, _, .out a, .inn b => (SpanP.inn (SpanP.xor a b)).cast (xor_l _ _ _) (xor_l _ _ _)
  | _, _, _, _, _, .inn a, .out b => (SpanP.inn (SpanP.xor a b)).cast (Nat.xor_assoc _ _ _).symm (Nat.xor_assoc _ _ _).symm
  | _, _, _, _, _, .inn a, .inn b => (SpanP.out (SpanP.xor a b)).cast (by rw [xor_4, Nat.xor_self, Nat.zero_xor]) (by rw [xor_4, Nat.xor_self, Nat.zero_xor])
theorem SpanP.mem : ∀ {L : List (Nat × Nat)} {m : Nat × Nat}, m ∈ L → SpanP L m.1 m.2
  | x :: L, m, h => by
    rcases List.mem_cons.mp h with rfl | h
    · exact (SpanP.inn (SpanP.zero L)).cast (Nat.xor_zero _) (Nat.xor_zero _)
    · exact .out (SpanP.mem h)
theorem SpanP.fst : ∀ {L : List (Nat × Nat)} {x y : Nat}, SpanP L x y → Span (L.map (·.1)) x
  | _, _, _, .nil => .nil
  | _, _, _, .out h => .out h.fst
  | _, _, _, .inn h => .inn h.fst
theorem SpanP.snd : ∀ {L : List (Nat × Nat)} {x y : Nat}, SpanP L x y → Span (L.map (·.2)) y
  | _, _, _, .nil => .nil
  | _, _, _, .out h => .out h.snd
  | _, _, _, .inn h => .inn h.snd
theorem SpanP.of_fst : ∀ {L : List (Nat × Nat)} {x : Nat}, Span (L.map (·.1)) x → ∃ y, SpanP L x y
  | [], _, h => by cases h; exact ⟨0, .nil⟩
  | m :: L, _, h => by
    cases h with
    | out h => obtain ⟨y, q⟩ := SpanP.of_fst h; exact ⟨y, .out q⟩
    | inn h => obtain ⟨y, q⟩ := SpanP.of_fst h; exact ⟨_, .inn q⟩
theorem SpanP.of_snd : ∀ {L : List (Nat × Nat)} {y : Nat}, Span (L.map (·.2)) y → ∃ x, SpanP L x y
  | [], _, h => by cases h; exact ⟨0, .nil⟩
  | m :: L, _, h => by
    cases h with
    | out h => obtain ⟨y, q⟩ := SpanP.of_snd h; exact ⟨y, .out q⟩
    | inn h => obtain ⟨y, q⟩ := SpanP.of_snd h; exact ⟨_, .inn q⟩
theorem SpanP.sel {ms : List Nat} : ∀ {L : List (Nat × Nat)} {x y : Nat}, (∀ m ∈ L, Gf.sel ms m.2 = m.1) → SpanP L x y → Gf.sel ms y = x
  | _, _, _, _, .nil => sel_zero ms
  | _, _, _, q, .out h => SpanP.sel (fun m hm => q m (List.mem_cons_of_mem _ hm)) h
  | _, _, _, q, .inn h => by
    rw [sel_xor, q _ List.mem_cons_self, SpanP.sel (fun m hm => q m (List.mem_cons_of_mem _ hm)) h]
theorem SpanP.of_mem {L M : List (Nat × Nat)} : ∀ {x y : Nat}, (∀ m ∈ L, m ∈ M) → SpanP L x y → SpanP M x y := by
  induction L with
  | nil => intro x y _ h; cases h; exact .zero M
  | cons m L ih =>
    intro x y q h
    cases h with
    | out h => exact ih (fun k hk => q k (List.mem_cons_of_mem _ hk)) h
    | inn h => exact (SpanP.mem (q m List.mem_cons_self)).xor (ih (fun k hk => q k (List.mem_cons_of_mem _ hk)) h)
/-- of steps only nothing makes 0 -/
theorem Ech.zeroP : ∀ {T : List (Nat × Nat × Nat)} {y : Nat}, Ech (T.map fun p => (p.1, p.2.1)) → SpanP (T.map (·.2)) 0 y → y = 0
  | [], y, _, h => by cases h; rfl
  | p :: T, y, e, h => by
    obtain ⟨e1, e2, e3⟩ := e
    have key : ∀ x y, SpanP ((p :: T).map (·.2)) x y → x = 0 → y = 0 := by
      intro x y h h0
      cases h with
      | out h => rw [h0] at h; exact Ech.zeroP e3 h
      | inn h =>
        exfalso
        have h2 := h.fst
        have h3 : (T.map (·.2)).map (·.1) = (T.map fun p => (p.1, p.2.1)).map (·.2) := by rw [List.map_map, List.map_map]; rfl
        rw [h3] at h2
        have h4 := Ech.span_bit e2 h2
        have h5 := congrArg (·.testBit p.1) h0
        simp only [Nat.testBit_xor, Nat.zero_testBit] at h5
        have e1' : p.2.1.testBit p.1 = true := e1
        rw [e1', h4] at h5
        cases h5
    exact key 0 y h rfl
end Gf
namespace Gf
theorem top_bit {x : Nat} (h : x ≠ 0) : x.testBit x.log2 = true := by
  have h1 : 2 ^ x.log2 ≤ x := Nat.log2_self_le h
  have h2 : x < 2 ^ (x.log2 + 1) := Nat.lt_log2_self
  rw [Nat.testBit_eq_decide_div_mod_eq]
  have h3 : x / 2 ^ x.log2 = 1 := by
    apply Nat.div_eq_of_lt_le
    · omega
    · rw [Nat.pow_succ] at h2; omega
  rw [h3]
  rfl
theorem above_top {x j : Nat} (h : x.log2 < j) : x.testBit j = false := by
  refine Nat.testBit_lt_two_pow (Nat.lt_of_lt_of_le (Nat.lt_log2_self (n := x)) (Nat.pow_le_pow_right (by decide) h))
theorem lt_of_bits {x y i : Nat} (hx : x.testBit i = false) (hy : y.testBit i = true) (h : ∀ j, i < j → x.testBit j = y.testBit j) : x < y := by
  have e : x / 2 ^ (i + 1) = y / 2 ^ (i + 1) := Nat.eq_of_testBit_eq fun j => by
    rw [Nat.testBit_div_two_pow, Nat.testBit_div_two_pow]
    exact h _ (by omega)
  rw [Nat.testBit_eq_decide_div_mod_eq] at hx hy
  have hx := of_decide_eq_false hx
  have hy := of_decide_eq_true hy
  have ex : x / 2 ^ i / 2 = x / 2 ^ (i + 1) := by rw [Nat.div_div_eq_div_mul, Nat.pow_succ]
  have ey : y / 2 ^ i / 2 = y / 2 ^ (i + 1) := by rw [Nat.div_div_eq_div_mul, Nat.pow_succ]
  rcases Nat.lt_or_ge x y with q | q
  · exact q
  · have := Nat.div_le_div_right (c := 2 ^ i) q
    omega
theorem min_clear {s x : Nat} (h : x ≠ 0) : (min s (s ^^^ x)).testBit x.log2 = false ∧ (min s (s ^^^ x) = s ∨ min s (s ^^^ x) = s ^^^ x) := by
  have hx := top_bit h
  cases hs : s.testBit x.log2 with
  | true =>
    have lt : s ^^^ x < s := lt_of_bits (i := x.log2) (by rw [Nat.testBit_xor, hs, hx]; rfl) hs fun j hj => by rw [Nat.testBit_xor, above_top hj]; simp
    have e : min s (s ^^^ x) = s ^^^ x := Nat.min_eq_right (Nat.le_of_lt lt)
    exact ⟨by rw [e, Nat.testBit_xor, hs, hx]; rfl, .inr e⟩
  | false =>
    have lt : s < s ^^^ x := lt_of_bits (i := x.log2) hs (by rw [Nat.testBit_xor, hs, hx]; rfl) fun j hj => by rw [Nat.testBit_xor, above_top hj]; simp
    have e : min s (s ^^^ x) = s := Nat.min_eq_left (Nat.le_of_lt lt)
    exact ⟨by rw [e]; exact hs, .inl e⟩
def cnt (K : List Nat) (s : Nat) : Nat := K.foldl (fun s o => min s (s ^^^ o)) s
def tops (K : List Nat) : List (Nat × Nat) := K.map fun x => (x.log2, x)
theorem tops_snd (K : List Nat) : (tops K).map (·.2) = K := by
  unfold tops
  rw [List.map_map]
  exact List.map_id K
theorem cnt_keep {t : Nat} : ∀ (K : List Nat) (s : Nat), (∀ x ∈ K, x.testBit t = false) → (∀ x ∈ K, x ≠ 0) → s.testBit t = false → (cnt K s).testBit t = false
  | [], s, _, _, h => h
  | x :: K, s, q, z, h => by
    refine cnt_keep K (min s (s ^^^ x)) (fun y hy => q y (List.mem_cons_of_mem _ hy)) (fun y hy => z y (List.mem_cons_of_mem _ hy)) ?_
    rcases (min_clear (s := s) (z x List.mem_cons_self)).2 with e | e
    · rw [e]; exact h
    · rw [e, Nat.testBit_xor, h, q x List.mem_cons_self]; rfl
theorem cnt_spec : ∀ (K : List Nat) (s : Nat), Ech (tops K) → (∀ x ∈ K, x ≠ 0) → (∀ p ∈ tops K, (cnt K s).testBit p.1 = false) ∧ Span K (s ^^^ cnt K s)
  | [], s, _, _ => ⟨by simp [tops], by show Span [] (s ^^^ s); rw [Nat.xor_self]; exact .nil⟩
  | x :: K, s, e, z => by
    obtain ⟨e1, e2, e3⟩ := e
    have z' := fun y hy => z y (List.mem_cons_of_mem x hy)
    obtain ⟨r1, r2⟩ := cnt_spec K (min s (s ^^^ x)) e3 z'
    obtain ⟨c1, c2⟩ := min_clear (s := s) (z x List.mem_cons_self)
    refine ⟨fun p hp => ?_, ?_⟩
    · rcases List.mem_cons.mp hp with rfl | hp
      · refine cnt_keep K _ (fun y hy => ?_) z' c1
        exact e2 (y.log2, y) (List.mem_map.mpr ⟨y, hy, rfl⟩)
      · exact r1 p hp
    · show Span (x :: K) (s ^^^ cnt K (min s (s ^^^ x)))
      rcases c2 with c2 | c2
      · rw [c2] at r2 ⊢
        exact .out r2
      · rw [c2] at r2 ⊢
        have : s ^^^ cnt K (s ^^^ x) = x ^^^ (s ^^^ x ^^^ cnt K (s ^^^ x)) := by
          rw [← Nat.xor_assoc, ← Nat.xor_assoc, Nat.xor_comm x s, Nat.xor_assoc s x x, Nat.xor_self, Nat.xor_zero]
        rw [this]
        exact .inn r2
/-- the kept masks of the law's own count -/
structure Kept (K ms : List Nat) : Prop where
  nz : ∀ x ∈ K, x ≠ 0
  bas : Basis (tops K) ms
theorem Kept.step {K ms : List Nat} {m : Nat} (h : Kept K ms) : (cnt K m = 0 → Kept K (ms ++ [m])) ∧ (cnt K m ≠ 0 → Kept (K ++ [cnt K m]) (ms ++ [m])) := by
  obtain ⟨h1, h2⟩ := cnt_spec K m h.bas.ech h.nz
  refine ⟨fun hz => ⟨h.nz, h.bas.same ?_⟩, fun hz => ⟨fun x hx => ?_, ?_⟩⟩
  · rw [tops_snd]
    rwa [hz, Nat.xor_zero] at h2
  · rcases List.mem_append.mp hx with hx | hx
    · exact h.nz x hx
    · rw [List.mem_singleton.mp hx]; exact hz
  · have := h.bas.more (m := m) h1 (top_bit hz) (by rw [tops_snd]; exact h2)
    unfold tops at this ⊢
    rw [List.map_append]
    exact this
def keep (K : List Nat) : List Nat → List Nat
  | [] => K
  | m :: ms => keep (match cnt K m with
    | 0 => K
    | x => K ++ [x]) ms
end Gf
namespace Gf
theorem halfI {P : Nat → Prop} (h0 : P 0) (h : ∀ n, 0 < n → P (n / 2) → P n) : ∀ n, P n := fun n => by
  induction n using Nat.strongRecOn with
  | ind n ih =>
    by_cases e : n = 0
    · subst e; exact h0
    · exact h n (by omega) (ih _ (by omega))
def pcB : Nat → Nat → Nat
  | 0, _ => 0
  | k + 1, n => n % 2 + pcB k (n / 2)
/-- how many bits are 1 -/
def pc (n : Nat) : Nat := pcB (n.log2 + 1) n
theorem pcB_same : ∀ {k n : Nat}, n < 2 ^ k → pcB (k + 1) n = pcB k n
  | 0, n, h => by
    have : n = 0 := by simpa using h
    subst this; rfl
  | k + 1, n, h => by
    rw [pcB, pcB_same (k := k) (n := n / 2) (by rw [Nat.pow_succ] at h; omega), pcB]
theorem pcB_more {k n : Nat} (h : n < 2 ^ k) : ∀ j, pcB (k + j) n = pcB k n
  | 0 => rfl
  | j + 1 => by
    rw [← Nat.add_assoc, pcB_same (Nat.lt_of_lt_of_le h (Nat.pow_le_pow_right (by decide) (Nat.le_add_right k j))), pcB_more h j]
theorem pc_eq {k n : Nat} (h : n < 2 ^ k) : pc n = pcB k n := by
  unfold pc
  have h1 : n < 2 ^ (n.log2 + 1) := Nat.lt_log2_self
  rcases Nat.le_total k (n.log2 + 1) with q | q
  · obtain ⟨j, e⟩ := Nat.exists_eq_add_of_le q
    rw [e, pcB_more h]
  · obtain ⟨j, e⟩ := Nat.exists_eq_add_of_le q
    rw [e, pcB_more h1]
theorem lt_pow_self (n : Nat) : n < 2 ^ n := Nat.lt_two_pow_self
theorem pc_zero : pc 0 = 0 := rfl
theorem pc_half (n : Nat) : pc n = n % 2 + pc (n / 2) := by
  have h : n < 2 ^ (n + 1) := Nat.lt_of_lt_of_le (lt_pow_self n) (Nat.pow_le_pow_right (by decide) (Nat.le_succ n))
  rw [pc_eq h, pcB, pc_eq (k := n) (n := n / 2) (by rw [Nat.pow_succ] at h; omega)]
theorem pc_le {k n : Nat} (h : n < 2 ^ k) : pc n ≤ k := by
  rw [pc_eq h]
  clear h
  induction k generalizing n with
  | zero => exact Nat.le_refl _
  | succ k ih =>
    have := ih (n := n / 2)
    rw [pcB]
    omega
theorem mod2_and' (a b : Nat) : ((a &&& b) % 2 = 1) ↔ (a % 2 = 1 ∧ b % 2 = 1) := by
  have := Nat.testBit_and a b 0
  rw [Nat.testBit_zero, Nat.testBit_zero, Nat.testBit_zero, ← Bool.decide_and, decide_eq_decide] at this
  exact this
theorem mod2_xor' (a b : Nat) : (a ^^^ b) % 2 = (a % 2 + b % 2) % 2 := by
  have h1 := Nat.mod_two_eq_zero_or_one a
  have h2 := Nat.mod_two_eq_zero_or_one b
  have h3 : (a ^^^ b).testBit 0 = (a.testBit 0 ^^ b.testBit 0) := Nat.testBit_xor a b 0
  simp only [Nat.testBit_zero] at h3
  have h4 := Nat.mod_two_eq_zero_or_one (a ^^^ b)
  rcases h1 with h1 | h1 <;> rcases h2 with h2 | h2 <;> rcases h4 with h4 | h4 <;> simp_all
theorem pc_low : ∀ n, 0 < n → pc (n &&& (n - 1)) + 1 = pc n := by
  intro n
  induction n using halfI with
  | h0 => intro h; omega
  | h n _ ih =>
    intro hn
    have e1 : (n &&& (n - 1)) / 2 = n / 2 &&& (n - 1) / 2 := Nat.and_div_two
    have t2 := mod2_and' n (n - 1)
    rw [pc_half (n &&& (n - 1)), pc_half n, e1]
    rcases Nat.mod_two_eq_zero_or_one n with h | h
    · have e2 : (n - 1) / 2 = n / 2 - 1 := by omega
      have := ih (by omega)
      rw [e2]
      omega
    · have e2 : (n - 1) / 2 = n / 2 := by omega
      rw [e2, Nat.and_self]
      omega
theorem pc_xor (a : Nat) : ∀ b : Nat, pc (a ^^^ b) % 2 = (pc a + pc b) % 2 := by
  induction a using halfI with
  | h0 => intro b; rw [Nat.zero_xor, pc_zero, Nat.zero_add]
  | h a _ ih =>
    intro b
    have e1 : (a ^^^ b) / 2 = a / 2 ^^^ b / 2 := Nat.xor_div_two
    have e3 := mod2_xor' a b
    have q := ih (b / 2)
    rw [pc_half (a ^^^ b), pc_half a, pc_half b, e1]
    omega
/-- an odd number of bits is 1 -/
def par (n : Nat) : Bool := decide (pc n % 2 = 1)
theorem par_zero : par 0 = false := rfl
theorem par_xor (a b : Nat) : par (a ^^^ b) = (par a ^^ par b) := by
  unfold par
  have := pc_xor a b
  have h1 := Nat.mod_two_eq_zero_or_one (pc a)
  have h2 := Nat.mod_two_eq_zero_or_one (pc b)
  rcases h1 with h1 | h1 <;> rcases h2 with h2 | h2 <;> rw [Nat.add_mod, h1, h2] at this <;> simp [this, h1, h2]
theorem par_half (n : Nat) : par n = (n.testBit 0 ^^ par (n / 2)) := by
  unfold par
  rw [pc_half, Nat.testBit_zero]
  have h1 := Nat.mod_two_eq_zero_or_one n
  have h2 := Nat.mod_two_eq_zero_or_one (pc (n / 2))
  rcases h1 with h1 | h1 <;> rcases h2 with h2 | h2 <;> rw [Nat.add_mod, h1, h2] <;> simp
theorem par_low {n : Nat} (h : 0 < n) : par n = !par (n &&& (n - 1)) := by
  have := pc_low n h
  unfold par
  rcases Nat.mod_two_eq_zero_or_one (pc (n &&& (n - 1))) with h1 | h1
  · have : pc n % 2 = 1 := by omega
    simp [this, h1]
  · have : pc n % 2 = 0 := by omega
    simp [this, h1]
theorem par_shl (k n : Nat) : par (n * 2 ^ k) = par n := by
  induction k with
  | zero => rw [Nat.pow_zero, Nat.mul_one]
  | succ k ih =>
    rw [par_half, Nat.testBit_zero, Nat.pow_succ, ← Nat.mul_assoc, Nat.mul_div_cancel _ (by decide), ih]
    simp
theorem par_pow (k : Nat) : par (2 ^ k) = true := by
  have := par_shl k 1
  rw [Nat.one_mul] at this
  rw [this]; rfl
theorem par_mod2 (n : Nat) : par (n % 2) = n.testBit 0 := by
  rw [Nat.testBit_zero]
  rcases Nat.mod_two_eq_zero_or_one n with h | h <;> rw [h] <;> rfl
/-- low half and high half put together -/
theorem par_fold {h n : Nat} (hn : n < 2 ^ (2 * h)) : par n = par ((n ^^^ n >>> h) % 2 ^ h) := by
  have e0 : n = (n / 2 ^ h) * 2 ^ h ^^^ n % 2 ^ h := by
    refine Nat.eq_of_testBit_eq fun j => ?_
    rw [Nat.testBit_xor, Nat.testBit_mod_two_pow, Nat.testBit_mul_two_pow, Nat.testBit_div_two_pow]
    by_cases hj : h ≤ j
    · have : ¬ j < h := by omega
      simp [hj, this]
    · have : j < h := by omega
      simp [hj, this]
  have e1 : (n ^^^ n >>> h) % 2 ^ h = n % 2 ^ h ^^^ n / 2 ^ h := by
    refine Nat.eq_of_testBit_eq fun j => ?_
    rw [Nat.testBit_mod_two_pow, Nat.testBit_xor, Nat.testBit_xor, Nat.testBit_mod_two_pow, Nat.testBit_shiftRight, Nat.testBit_div_two_pow]
    by_cases hj : j < h
    · simp [hj, Nat.add_comm]
    · have : n.testBit (j + h) = false := Nat.testBit_lt_two_pow (Nat.lt_of_lt_of_le hn (Nat.pow_le_pow_right (by decide) (by omega)))
      simp [hj, this]
  rw [e1, par_xor]
  have e2 : par n = par ((n / 2 ^ h) * 2 ^ h ^^^ n % 2 ^ h) := by rw [← e0]
  rw [e2, par_xor, par_shl, Bool.xor_comm]
theorem mod_fold {h n : Nat} : ((n % 2 ^ (2 * h)) ^^^ (n % 2 ^ (2 * h)) >>> h) % 2 ^ h = (n ^^^ n >>> h) % 2 ^ h := by
  refine Nat.eq_of_testBit_eq fun j => ?_
  rw [Nat.testBit_mod_two_pow, Nat.testBit_mod_two_pow, Nat.testBit_xor, Nat.testBit_xor, Nat.testBit_shiftRight, Nat.testBit_shiftRight, Nat.testBit_mod_two_pow, Nat.testBit_mod_two_pow]
  by_cases hj : j < h
  · have h1 : j < 2 * h := by omega
    have h2 : h + j < 2 * h := by omega
    simp [hj, h1, h2]
  · simp [hj]
theorem par_step {h n : Nat} : par (n % 2 ^ (2 * h)) = par ((n ^^^ n >>> h) % 2 ^ h) := by
  rw [par_fold (h := h) (n := n % 2 ^ (2 * h)) (Nat.mod_lt _ (Nat.two_pow_pos _)), mod_fold]
/-- the way of the program: halves put together -/
def foldP (n h : Nat) : Nat := n ^^^ n >>> h
theorem par_folds {n : Nat} (hn : n < 2 ^ 128) : (foldP (foldP (foldP (foldP (foldP (foldP (foldP n 64) 32) 16) 8) 4) 2) 1).testBit 0 = par n := by
  have e0 : par n = par (n % 2 ^ (2 * 64)) := by rw [Nat.mod_eq_of_lt (by simpa using hn)]
  rw [e0, par_step (h := 64), show (64 : Nat) = 2 * 32 from rfl, par_step (h := 32), show (32 : Nat) = 2 * 16 from rfl, par_step (h := 16), show (16 : Nat) = 2 * 8 from rfl, par_step (h := 8), show (8 : Nat) = 2 * 4 from rfl, par_step (h := 4), show (4 : Nat) = 2 * 2 from rfl, par_step (h := 2)]
  have := par_step (h := 1) (n := (foldP (foldP (foldP (foldP (foldP (foldP n 64) 32) 16) 8) 4) 2))
  rw [Nat.pow_one, par_mod2] at this
  exact this.symm
/-- the parity of what two masks share is linear -/
theorem par_and_xor (a b c : Nat) : par (a &&& (b ^^^ c)) = (par (a &&& b) ^^ par (a &&& c)) := by
  rw [Nat.and_xor_distrib_left, par_xor]
theorem par_xor_and (a b c : Nat) : par ((a ^^^ b) &&& c) = (par (a &&& c) ^^ par (b &&& c)) := by
  rw [Nat.and_xor_distrib_right, par_xor]
theorem and_pow (a i : Nat) : a &&& 2 ^ i = if a.testBit i = true then 2 ^ i else 0 := by
  refine Nat.eq_of_testBit_eq fun j => ?_
  rw [Nat.testBit_and, Nat.testBit_two_pow]
  by_cases h : i = j
  · subst h
    cases e : a.testBit i <;> simp [Nat.testBit_two_pow]
  · cases e : a.testBit i <;> simp [h, Nat.testBit_two_pow]
theorem par_and_pow (a i : Nat) : par (a &&& 2 ^ i) = a.testBit i := by
  rw [and_pow]
  cases a.testBit i
  · rfl
  · simp [par_pow]
end Gf
namespace PG
open DN Gf
open L2 (Key)
open PySem (PyData Str)
def nnD (l : List Nat) : D := .lst (l.map iN)
def bhN (b k row : Nat) : List Nat := (List.range (2 ^ b)).map fun s => (if par (row &&& s) then 1 else 0) <<< k
def lgN (b k : Nat) (ls : List (List Nat)) : List (List Nat) := (List.range' 1 (2 ^ b - 1)).flatMap fun row => ls.map fun l => List.zipWith (· ||| ·) l (bhN b k row)
def lsN (b k : Nat) (ls : List (List Nat)) : List (List Nat) := (lgN b k ls).filter fun l => l.eraseDups.length == 2 <<< k
def stgN (b : Nat) : Nat → List (List Nat)
  | 0 => [List.replicate (2 ^ b) 0]
  | k + 1 => lsN b k (stgN b k)
theorem stage30 {s3 s4 s5 : Sl} : x__law_every_6 [.ln (iN 3), .own (.lst ((stgN 3 0).map nnD)), .fz (iN 0), s3, s4, s5, .un, .un, .un, .un, .un, .un] = .ok [.ln (iN 3), .own (.lst ((stgN 3 1).map nnD)), .fz (iN 0), .own (.lst ((lgN 3 0 (stgN 3 0)).map nnD)), .fz (iN 7), .fz (nnD (bhN 3 0 7)), .un, .un, .un, .un, .un, .un] .nx := by kernel_rfl
theorem stage31 {s3 s4 s5 : Sl} : x__law_every_6 [.ln (iN 3), .own (.lst ((stgN 3 1).map nnD)), .fz (iN 1), s3, s4, s5, .un, .un, .un, .un, .un, .un] = .ok [.ln (iN 3), .own (.lst ((stgN 3 2).map nnD)), .fz (iN 1), .own (.lst ((lgN 3 1 (stgN 3 1)).map nnD)), .fz (iN 7), .fz (nnD (bhN 3 1 7)), .un, .un, .un, .un, .un, .un] .nx := by kernel_rfl
theorem stage32 {s3 s4 s5 : Sl} : x__law_every_6 [.ln (iN 3), .own (.lst ((stgN 3 2).map nnD)), .fz (iN 2), s3, s4, s5, .un, .un, .un, .un, .un, .un] = .ok [.ln (iN 3), .own (.lst ((stgN 3 3).map nnD)), .fz (iN 2), .own (.lst ((lgN 3 2 (stgN 3 2)).map nnD)), .fz (iN 7), .fz (nnD (bhN 3 2 7)), .un, .un, .un, .un, .un, .un] .nx := by kernel_rfl
end PG
namespace PG
open DN
open PySem (PyData Str)
/-- the state of the draws: at most n mixed numbers were taken -/
def Src (n : Nat) (s : D) : Prop := ∃ a b c : Nat, s = .lst [iN a, iN b, iN c] ∧ b < 10 ^ 47 ∧ c ≤ n
theorem Src.mk {m a b c : Nat} (h1 : b < 10 ^ 47) (h2 : c ≤ m) : Src m (.lst [iN a, iN b, iN c]) := ⟨a, b, c, rfl, h1, h2⟩
theorem Src.mono {m n : Nat} {s : D} (h : Src m s) (q : m ≤ n) : Src n s := by
  obtain ⟨a, b, c, e, h1, h2⟩ := h
  exact ⟨a, b, c, e, h1, by omega⟩
theorem gAbs_i (c : Int) : gAbs [.int c] = some (.fz (iN c.natAbs)) := by
  show some (R.fz (.int (if c < 0 then -c else c))) = _
  congr 3
  split <;> omega
theorem gMax0 (a b : Nat) : gMax [iN 0, .int ((a : Int) - (b : Int))] = some (.fz (iN (a - b))) := by
  show some (R.fz (.int (if (a : Int) - (b : Int) > 0 then (a : Int) - (b : Int) else (0 : Int)))) = _
  congr 3
  split <;> omega
theorem gLt0 (c : Int) : gLt (.int c) (iN 0) = some (.fz (.bl (decide (c < 0)))) := nr rfl
theorem gPow3 {a : Nat} (h : a < 2 ^ 200) : gPow (iN a) (iN 3) = some (.fz (iN (a ^ 3))) := by
  refine (iI_ok (f := fun i j => i ^ j.toNat) (okPowN h (by decide))).trans ?_
  simp
theorem gPow10 {b : Nat} (h : b ≤ 100) : gPow (iN 10) (iN b) = some (.fz (iN (10 ^ b))) := gPow_N (by decide) (by omega)
theorem gDiv_b {a b : Nat} (h0 : 0 < b) (h : b < 2 ^ 400) : gDiv (iN a) (iN b) = some (.fz (iN (a / b))) := (iI_ok (by
  unfold okDiv
  refine and_t (decide_eq_true (by omega)) (Nat.ble_eq_true_of_le (m := 9000) ?_)
  rw [Int.natAbs_natCast]
  have := (Nat.log2_lt (Nat.ne_of_gt h0)).mpr h
  omega)).trans rfl
theorem source_ok (c : Int) {k : Nat} (h : k < 10 ^ 6) : ∃ s, d__law_source [.int c, iN k] = .ok [] (.own s) ∧ Src 0 s := by
  have hm := Nat.mod_lt c.natAbs (show 0 < 10 ^ 43 + 57 by decide)
  have hb : (decide (c < 0)).toNat ≤ 1 := Bool.toNat_le _
  refine ⟨.lst [iN (c.natAbs - 10 ^ 18), iN (c.natAbs % (10 ^ 43 + 57) * 89 + 2 * k + (decide (c < 0)).toNat), iN 0], ?_, _, _, _, rfl, by omega, Nat.le_refl _⟩
  have e1 : gPow (iN 10) (iN 18) = some (.fz (iN (10 ^ 18))) := gPow10 (by decide)
  have e2 : gPow (iN 10) (iN 43) = some (.fz (iN (10 ^ 43))) := gPow10 (by decide)
  have e3 : gSub (iN c.natAbs) (iN (10 ^ 18)) = some (.fz (.int ((c.natAbs : Int) - ((10 ^ 18 : Nat) : Int)))) := gSub_i _ _
  have e4 : gMul (iN (c.natAbs % (10 ^ 43 + 57))) (iN 89) = some (.fz (iN (c.natAbs % (10 ^ 43 + 57) * 89))) := gMul_r (by decide)
  have e5 : gMul (iN 2) (iN k) = some (.fz (iN (2 * k))) := gMul_l (by decide)
  have e6 : gMod (iN c.natAbs) (iN (10 ^ 43 + 57)) = some (.fz (iN (c.natAbs % (10 ^ 43 + 57)))) := gMod_N (by decide)
  generalize 10 ^ 43 = p at *
  generalize 10 ^ 18 = q at *
  simp [d__law_source, b__law_source, gAbs_i, e1, e2, e3, e4, e5, e6, gMax0, gLt0]
theorem draw_pos {a b c n : Nat} (ha : 0 < a) (hn : 0 < n) (hl : n < 2 ^ 400) : d__law_draw [.lst [iN a, iN b, iN c], iN n] = .ok [.lst [iN (a / n), iN b, iN c]] (.fz (iN (a % n))) := by
  have e1 : gDiv (iN a) (iN n) = some (.fz (iN (a / n))) := gDiv_b hn hl
  have e2 : gMod (iN a) (iN n) = some (.fz (iN (a % n))) := gMod_N hn
  simp [d__law_draw, b__law_draw, ha, e1, e2]
theorem draw_mix {b c n : Nat} (hb : b < 10 ^ 47) (hc : c < 10 ^ 9) (hn : 0 < n) : ∃ x : Nat, d__law_draw [.lst [iN 0, iN b, iN c], iN n] = .ok [.lst [iN 0, iN b, iN (c + 1)]] (.fz (iN (x % n))) := by
  have q39 : gPow (iN 10) (iN 39) = some (.fz (iN (10 ^ 39))) := gPow10 (by decide)
  have q41 : gPow (iN 10) (iN 41) = some (.fz (iN (10 ^ 41))) := gPow10 (by decide)
  have e1 : gMul (iN 700001) (iN (c + 1)) = some (.fz (iN (700001 * (c + 1)))) := gMul_l (by decide)
  have e2 : gPow (iN (b + 700001 * (c + 1))) (iN 3) = some (.fz (iN ((b + 700001 * (c + 1)) ^ 3))) := gPow3 (by omega)
  have m0 : 0 < 10 ^ 39 + 3 := by decide
  have m1 : 0 < 10 ^ 41 + 81 := by decide
  have h1 := Nat.mod_lt ((b + 700001 * (c + 1)) ^ 3) m0
  have k1 : gMod (iN ((b + 700001 * (c + 1)) ^ 3)) (iN (10 ^ 39 + 3)) = some (.fz (iN ((b + 700001 * (c + 1)) ^ 3 % (10 ^ 39 + 3)))) := gMod_N m0
  generalize (b + 700001 * (c + 1)) ^ 3 % (10 ^ 39 + 3) = y at *
  have e3 : gMul (iN y) (iN (c + 1)) = some (.fz (iN (y * (c + 1)))) := gMul_r (by omega)
  have h2 : y * (c + 1) ≤ (10 ^ 39 + 3) * 10 ^ 9 := Nat.mul_le_mul (by omega) (by omega)
  have e4 : gPow (iN (y * (c + 1) + 90031)) (iN 3) = some (.fz (iN ((y * (c + 1) + 90031) ^ 3))) := gPow3 (by omega)
  have k2 : gMod (iN ((y * (c + 1) + 90031) ^ 3)) (iN (10 ^ 41 + 81)) = some (.fz (iN ((y * (c + 1) + 90031) ^ 3 % (10 ^ 41 + 81)))) := gMod_N m1
  generalize (y * (c + 1) + 90031) ^ 3 % (10 ^ 41 + 81) = z at *
  have k3 : gDiv (iN z) (iN 131101) = some (.fz (iN (z / 131101))) := gDiv_N (by decide) (by decide)
  have k4 : gMod (iN (z / 131101)) (iN n) = some (.fz (iN (z / 131101 % n))) := gMod_N hn
  refine ⟨z / 131101, ?_⟩
  generalize 10 ^ 39 = p at *
  generalize 10 ^ 41 = q at *
  simp [d__law_draw, b__law_draw, q39, q41, e1, e2, k1, e3, e4, k2, k3, k4]
theorem p_draw {m n : Nat} {s : D} (h : Src m s) (hm : m < 10 ^ 9) (hn : 0 < n) (hl : n < 2 ^ 400) : ∃ (s' : D) (r : Nat), d__law_draw [s, iN n] = .ok [s'] (.fz (iN r)) ∧ Src (m + 1) s' ∧ r < n := by
  obtain ⟨a, b, c, rfl, h1, h2⟩ := h
  by_cases ha : a = 0
  · subst ha
    obtain ⟨x, e⟩ := draw_mix (c := c) h1 (by omega) hn
    have h3 : c + 1 ≤ m + 1 := by omega
    exact ⟨.lst [iN 0, iN b, iN (c + 1)], x % n, e, Src.mk h1 h3, Nat.mod_lt _ hn⟩
  · have h3 : c ≤ m + 1 := by omega
    exact ⟨.lst [iN (a / n), iN b, iN c], a % n, draw_pos (Nat.pos_of_ne_zero ha) hn hl, Src.mk h1 h3, Nat.mod_lt _ hn⟩
end PG
namespace PG
open DN Gf
open L2 (Key)
open PySem (PyData Str)
theorem p_is_integer (x lo hi : Nat) : d_is_integer [iN x, iN lo, iN hi] = .ok [] (.fz (.bl (decide (lo ≤ x) && decide (x ≤ hi)))) := by
  simp [d_is_integer, b_is_integer]
  by_cases h : lo ≤ x <;> simp [h]
theorem p_need_bits {b : Nat} (h1 : 1 ≤ b) (h2 : b ≤ 60) : d_need_bits [iN b] = .ok [] (.fz .non) := by
  simp [d_need_bits, b_need_bits, p_is_integer, h1, h2]
theorem p_is_place {b m : Nat} (hb : b ≤ 99) : d_is_place [iN b, iN m] = .ok [] (.fz (.bl (decide (m < 2 ^ b)))) := by
  have h0 := Nat.two_pow_pos b
  have e : decide (m ≤ 2 ^ b - 1) = decide (m < 2 ^ b) := by rw [decide_eq_decide]; omega
  have hb' : b ≤ 100000 := by omega
  have h1 : 1 ≤ 2 ^ b := h0
  simp [d_is_place, b_is_place, p_is_integer, hb', h1, e]
theorem p_need_place {b m : Nat} (hb : b ≤ 99) (hm : m < 2 ^ b) : d_need_place [iN b, iN m] = .ok [] (.fz .non) := by
  simp [d_need_place, b_need_place, p_is_place hb, hm]
/-- the dict of the leads: by bit the mask and its picks -/
abbrev Leads := List (Nat × Nat × Nat)
def ldK (L : Leads) : List (Key × D) := L.map fun p => (.inl (p.1 : Int), .tup [iN p.2.1, iN p.2.2])
def ldD (L : Leads) : D := .dct (ldK L)
def find (L : Leads) (b : Nat) : Option (Nat × Nat) := (L.find? fun p => decide (p.1 = b)).map (·.2)
theorem val_ld (L : Leads) (b : Nat) : valD (ldK L) (.inl (b : Int)) = (find L b).map fun q => .tup [iN q.1, iN q.2] := by
  induction L with
  | nil => rfl
  | cons p L ih =>
    unfold valD find ldK at ih ⊢
    rw [List.map_cons, List.find?_cons, List.find?_cons]
    by_cases h : p.1 = b
    · simp [h]
    · have h' : ¬ ((p.1 : Int) = (b : Int)) := by omega
      simp only [Sum.inl.injEq, h, h', decide_false, Bool.false_eq_true]
      exact ih
theorem keys_ld (L : Leads) : keysI (ldK L) = some (L.map fun p => (p.1 : Int)) := by
  induction L with
  | nil => rfl
  | cons p L ih => unfold ldK at ih ⊢; rw [List.map_cons, keysI, ih]; rfl
theorem ldK_len (L : Leads) : (ldK L).length = L.length := List.length_map _
@[simp] theorem gIx_ld (L : Leads) (b : Nat) : gIx (ldD L) (iN b) = (find L b).map fun q => .fz (.tup [iN q.1, iN q.2]) := by
  unfold ldD
  rw [gIx_dct, val_ld, Option.map_map]
  rfl
@[simp] theorem gIn_ld (L : Leads) (b : Nat) : gIn (iN b) (ldD L) = some (.fz (.bl (find L b).isSome)) := by
  unfold ldD
  rw [gIn_dct, val_ld, Option.isSome_map]
@[simp] theorem gNotIn_ld (L : Leads) (b : Nat) : gNotIn (iN b) (ldD L) = some (.fz (.bl (!(find L b).isSome))) := by
  unfold ldD
  rw [gNotIn_dct, val_ld, Option.isSome_map]
@[simp] theorem gLen_ld (L : Leads) : gLen [ldD L] = some (.fz (iN L.length)) := by
  unfold ldD
  rw [gLen_dct, ldK_len]
def redStep (L : Leads) (s : Nat × Nat) (b : Nat) : Nat × Nat := if s.1.testBit b = true then (match find L b with
  | some q => (s.1 ^^^ q.1, s.2 ^^^ q.2)
  | none => s) else s
/-- the bits, ascending -/
def sortN (bs : List Nat) : List Nat := (sortI (bs.map fun b : Nat => (b : Int))).map Int.toNat
theorem sortN_eq (bs : List Nat) : sortI (bs.map fun b : Nat => (b : Int)) = (sortN bs).map fun b : Nat => (b : Int) := by
  unfold sortN
  rw [List.map_map]
  refine (List.map_id _).symm.trans (List.map_congr_left fun x hx => ?_)
  have := (sortI_perm _).mem_iff.mp hx
  obtain ⟨b, _, rfl⟩ := List.mem_map.mp this
  simp
theorem sortN_perm (bs : List Nat) : (sortN bs).Perm bs := by
  have := (sortI_perm (bs.map fun b : Nat => (b : Int))).map Int.toNat
  rw [List.map_map] at this
  have e : (Int.toNat ∘ fun b : Nat => (b : Int)) = id := funext fun x => by simp
  rw [e, List.map_id] at this
  exact this
theorem mem_sortN {bs : List Nat} {b : Nat} : b ∈ sortN bs ↔ b ∈ bs := (sortN_perm bs).mem_iff
theorem sortN_le (bs : List Nat) : (sortN bs).Pairwise (· ≤ ·) := by
  have := sortI_srt (bs.map fun b : Nat => (b : Int))
  rw [sortN_eq] at this
  have := List.pairwise_map.mp this
  exact this.imp fun q => Int.ofNat_le.mp q
theorem sortN_lt {bs : List Nat} (h : bs.Nodup) : (sortN bs).Pairwise (· < ·) :=
  ((sortN_le bs).and ((sortN_perm bs).nodup_iff.mpr h)).imp fun q => Nat.lt_of_le_of_ne q.1 q.2
theorem gSorted_ld {L : Leads} (hL : L.length < 64) : gSorted [ldD L] = some (.own (.lst ((sortN (L.map (·.1))).map iN))) := by
  unfold ldD
  have e1 : (L.map fun p => (p.1 : Int)) = (L.map (·.1)).map fun b : Nat => (b : Int) := by rw [List.map_map]; rfl
  refine (gSorted.eq_2 _).trans ?_
  simp only [keys_ld, List.length_map, hL, if_true, e1, sortN_eq]
  rw [List.map_map]
  rfl
def red (L : Leads) (s : Nat × Nat) : Nat × Nat := (sortN (L.map (·.1))).foldl (redStep L) s
theorem find_some {L : Leads} {b : Nat} (h : b ∈ L.map (·.1)) : ∃ q, find L b = some q := by
  unfold find
  cases e : L.find? (fun p => decide (p.1 = b)) with
  | some p => exact ⟨p.2, rfl⟩
  | none =>
    obtain ⟨p, hp, rfl⟩ := List.mem_map.mp h
    have := List.find?_eq_none.mp e p hp
    simp at this
theorem find_mem {L : Leads} {b : Nat} {q : Nat × Nat} (h : find L b = some q) : (b, q) ∈ L := by
  unfold find at h
  obtain ⟨p, hp, rfl⟩ := Option.map_eq_some_iff.mp h
  have h1 := List.find?_some hp
  have h2 := List.mem_of_find?_eq_some hp
  have e : p.1 = b := of_decide_eq_true h1
  subst e
  exact h2
theorem p_reduced {L : Leads} {m p : Nat} (hL : L.length < 64) : d_reduced [ldD L, iN m, iN p] = .ok [] (.tp [.fz (iN (red L (m, p)).1), .fz (iN (red L (m, p)).2)]) := by
  obtain ⟨ρ', e, x, rfl⟩ := loop_l (g := store 3) (b := x_reduced_1) iN (fun d ρ => ∃ x, ρ = [.ln (ldD L), .fz (iN (d.foldl (redStep L) (m, p)).1), .fz (iN (d.foldl (redStep L) (m, p)).2), x])
    (xs := sortN (L.map (·.1))) (ρ := [.ln (ldD L), .fz (iN m), .fz (iN p), .un]) ⟨_, rfl⟩ (by
    rintro d b t ρ hx ⟨x, rfl⟩
    obtain ⟨q, hq⟩ := find_some (mem_sortN.mp (show b ∈ sortN (L.map (·.1)) by rw [hx]; simp))
    rw [List.foldl_append]
    generalize d.foldl (redStep L) (m, p) = s
    have hv := val_ld L b
    rw [hq] at hv
    cases ht : s.1.testBit b <;> simp [x_reduced_1, redStep, ht, hq])
  simp [d_reduced, b_reduced, gSorted_ld hL, e, red]
/-- each lead has its bit and none below -/
def Low (L : Leads) : Prop := ∀ p ∈ L, p.2.1.testBit p.1 = true ∧ ∀ j, j < p.1 → p.2.1.testBit j = false
theorem red_go {L : Leads} (low : Low L) : ∀ (bs done : List Nat) (s : Nat × Nat), bs.Pairwise (· < ·) → (∀ c ∈ done, ∀ b ∈ bs, c < b) → (∀ c ∈ done, s.1.testBit c = false) → (∀ b ∈ bs, b ∈ L.map (·.1)) →
    (∀ c ∈ done ++ bs, (bs.foldl (redStep L) s).1.testBit c = false) ∧ SpanP (L.map (·.2)) (s.1 ^^^ (bs.foldl (redStep L) s).1) (s.2 ^^^ (bs.foldl (redStep L) s).2)
  | [], done, s, _, _, h, _ => ⟨by simpa using h, by rw [List.foldl_nil, Nat.xor_self, Nat.xor_self]; exact .zero _⟩
  | b :: bs, done, s, hp, hlt, h, hm => by
    obtain ⟨p1, p2⟩ := List.pairwise_cons.mp hp
    obtain ⟨q, hq⟩ := find_some (hm b List.mem_cons_self)
    obtain ⟨l1, l2⟩ := low _ (find_mem hq)
    have key : (∀ c ∈ done ++ [b], (redStep L s b).1.testBit c = false) ∧ SpanP (L.map (·.2)) (s.1 ^^^ (redStep L s b).1) (s.2 ^^^ (redStep L s b).2) := by
      unfold redStep
      by_cases ht : s.1.testBit b = true
      · simp only [ht, if_true, hq]
        refine ⟨fun c hc => ?_, ?_⟩
        · rw [Nat.testBit_xor]
          rcases List.mem_append.mp hc with hc | hc
          · rw [h c hc, l2 c (hlt c hc b List.mem_cons_self)]
            rfl
          · rw [List.mem_singleton.mp hc, ht, l1]
            rfl
        · rw [Gf.xor_x, Gf.xor_x]
          exact SpanP.mem (m := q) (List.mem_map.mpr ⟨_, find_mem hq, rfl⟩)
      · simp only [ht, Bool.false_eq_true, if_false]
        refine ⟨fun c hc => ?_, by rw [Nat.xor_self, Nat.xor_self]; exact .zero _⟩
        rcases List.mem_append.mp hc with hc | hc
        · exact h c hc
        · rw [List.mem_singleton.mp hc]; exact Bool.eq_false_iff.mpr ht
    obtain ⟨k1, k2⟩ := key
    obtain ⟨r1, r2⟩ := red_go low bs (done ++ [b]) (redStep L s b) p2 (fun c hc d hd => by
      rcases List.mem_append.mp hc with hc | hc
      · exact hlt c hc d (List.mem_cons_of_mem _ hd)
      · rw [List.mem_singleton.mp hc]; exact p1 d hd) k1 fun d hd => hm d (List.mem_cons_of_mem _ hd)
    refine ⟨fun c hc => r1 c (by simpa using hc), ?_⟩
    have := k2.xor r2
    rw [Nat.xor_assoc, Gf.xor_x, Nat.xor_assoc, Gf.xor_x] at this
    exact this
theorem red_spec {L : Leads} (low : Low L) (hn : (L.map (·.1)).Nodup) (s : Nat × Nat) : (∀ p ∈ L, (red L s).1.testBit p.1 = false) ∧ SpanP (L.map (·.2)) (s.1 ^^^ (red L s).1) (s.2 ^^^ (red L s).2) := by
  obtain ⟨h1, h2⟩ := red_go low (sortN (L.map (·.1))) [] s (sortN_lt hn) (by simp) (by simp) fun b hb => mem_sortN.mp hb
  exact ⟨fun p hp => h1 _ (by simpa using mem_sortN.mpr (List.mem_map.mpr ⟨p, hp, rfl⟩)), h2⟩
/-- what eliminated keeps -/
structure Elim (b : Nat) (L : Leads) (E : List Nat) (ms : List Nat) : Prop where
  low : Low L
  nd : (L.map (·.1)).Nodup
  lt : ∀ p ∈ L, p.1 < b
  lm : ∀ p ∈ L, p.2.1 < 2 ^ b
  bas : Gf.Basis (L.map fun p => (p.1, p.2.1)) ms
  pk : ∀ p ∈ L, p.2.2 < 2 ^ ms.length ∧ sel ms p.2.2 = p.2.1
  ek : ∀ e ∈ E, e < 2 ^ ms.length ∧ e ≠ 0 ∧ sel ms e = 0
  all : ∀ q, q < 2 ^ ms.length → Span (L.map (·.2.2) ++ E) q
  cnt : L.length + E.length = ms.length
theorem Elim.nil {b : Nat} : Elim b [] [] [] := ⟨fun p hp => (nomatch hp), List.nodup_nil, fun p hp => (nomatch hp), fun p hp => (nomatch hp), Gf.Basis.nil, fun p hp => (nomatch hp), fun p hp => (nomatch hp), fun q hq => by
  have : q = 0 := by simpa using hq
  subst this
  exact Span.zero _, rfl⟩
theorem map_snd (L : Leads) : (L.map fun p => (p.1, p.2.1)).map (·.2) = L.map (·.2.1) := by rw [List.map_map]; rfl
theorem map_f (L : Leads) : (L.map (·.2)).map (·.1) = L.map (·.2.1) := by rw [List.map_map]; rfl
theorem map_s (L : Leads) : (L.map (·.2)).map (·.2) = L.map (·.2.2) := by rw [List.map_map]; rfl
section
variable {b : Nat} {L : Leads} {E ms : List Nat}
theorem Elim.len (h : Elim b L E ms) : L.length ≤ b := by
  have := Gf.nodup_le h.nd (n := b) fun x hx => by
    obtain ⟨p, hp, rfl⟩ := List.mem_map.mp hx
    exact h.lt p hp
  rwa [List.length_map] at this
theorem Elim.rk (h : Elim b L E ms) : L.length = Gf.rk ms := by
  have := h.bas.len
  rwa [List.length_map] at this
theorem xor_lt {a c n : Nat} (h1 : a < 2 ^ n) (h2 : c < 2 ^ n) : a ^^^ c < 2 ^ n := Nat.xor_lt_two_pow h1 h2
theorem pow_mono {a n m : Nat} (h : a < 2 ^ n) (q : n ≤ m) : a < 2 ^ m := Nat.lt_of_lt_of_le h (Nat.pow_le_pow_right (by decide) q)
/-- what the picks behind a further mask are -/
theorem Elim.step (h : Elim b L E ms) (m : Nat) : (red L (m, 2 ^ ms.length)).2 < 2 ^ (ms.length + 1) ∧ (red L (m, 2 ^ ms.length)).2 ≠ 0 ∧ sel (ms ++ [m]) (red L (m, 2 ^ ms.length)).2 = (red L (m, 2 ^ ms.length)).1 ∧
    ∃ z, z < 2 ^ ms.length ∧ (red L (m, 2 ^ ms.length)).2 = 2 ^ ms.length ^^^ z := by
  obtain ⟨h1, h2⟩ := red_spec h.low h.nd (m, 2 ^ ms.length)
  generalize red L (m, 2 ^ ms.length) = r at *
  have hz := h2.snd
  rw [map_s] at hz
  have hlt : 2 ^ ms.length ^^^ r.2 < 2 ^ ms.length := hz.bound fun x hx => by
    obtain ⟨p, hp, rfl⟩ := List.mem_map.mp hx
    exact (h.pk p hp).1
  have e : r.2 = 2 ^ ms.length ^^^ (2 ^ ms.length ^^^ r.2) := (Gf.xor_x _ _).symm
  have hs : sel ms (2 ^ ms.length ^^^ r.2) = m ^^^ r.1 := SpanP.sel (fun q hq => by
    obtain ⟨p, hp, rfl⟩ := List.mem_map.mp hq
    exact (h.pk p hp).2) h2
  refine ⟨?_, ?_, ?_, _, hlt, e⟩
  · rw [e]
    exact xor_lt (Nat.pow_lt_pow_right (by decide) (Nat.lt_succ_self _)) (pow_mono hlt (Nat.le_succ _))
  · intro h0
    rw [h0, Nat.xor_zero] at hlt
    exact absurd hlt (Nat.lt_irrefl _)
  · have h3 : sel (ms ++ [m]) (2 ^ ms.length ^^^ r.2) = m ^^^ r.1 := by rw [sel_small hlt, hs]
    rw [sel_xor, sel_pow (ms ++ [m]) ms.length (by simp)] at h3
    have h4 : (ms ++ [m])[ms.length]'(by simp) = m := by simp
    rw [h4] at h3
    have := congrArg (m ^^^ ·) h3
    simp only [Gf.xor_x] at this
    exact this
theorem span_more {A : List Nat} {n y z : Nat} (hA : ∀ q, q < 2 ^ n → Span A q) (hz : z < 2 ^ n) (B : List Nat) (hB : ∀ x ∈ A, x ∈ B) (hy : (2 ^ n ^^^ z) ∈ B) {q : Nat} (hq : q < 2 ^ (n + 1)) : Span B q := by
  have hA' : ∀ q, q < 2 ^ n → Span B q := fun q h => (hA q h).of_mem hB
  have hn : Span B (2 ^ n) := by
    have := (Span.mem hy).xor (hA' z hz)
    rwa [Gf.xor_d] at this
  by_cases ht : q.testBit n = true
  · have : q ^^^ 2 ^ n < 2 ^ n := by
      refine Nat.lt_pow_two_of_testBit _ fun i hi => ?_
      rw [Nat.testBit_xor, Nat.testBit_two_pow]
      by_cases hin : n = i
      · subst hin; simp [ht]
      · rw [Nat.testBit_lt_two_pow (pow_mono hq (by omega))]
        simp [hin]
    have := (hA' _ this).xor hn
    rwa [Gf.xor_d] at this
  · refine hA' q (Nat.lt_pow_two_of_testBit _ fun i hi => ?_)
    by_cases hin : n = i
    · subst hin; exact Bool.eq_false_iff.mpr ht
    · exact Nat.testBit_lt_two_pow (pow_mono hq (by omega))
theorem Elim.zero {m : Nat} (h : Elim b L E ms) (hz : (red L (m, 2 ^ ms.length)).1 = 0) : Elim b L (E ++ [(red L (m, 2 ^ ms.length)).2]) (ms ++ [m]) := by
  obtain ⟨h1, h2⟩ := red_spec h.low h.nd (m, 2 ^ ms.length)
  obtain ⟨s1, s2, s3, z, s4, s5⟩ := h.step m
  rw [hz] at h2 s3
  have len : (ms ++ [m]).length = ms.length + 1 := by simp
  have h2 := h2.fst
  refine ⟨h.low, h.nd, h.lt, h.lm, h.bas.same ?_, fun p hp => ?_, fun e he => ?_, fun q hq => ?_, ?_⟩
  · rw [map_snd]
    rw [map_f] at h2
    simpa using h2
  · obtain ⟨k1, k2⟩ := h.pk p hp
    exact ⟨by rw [len]; exact pow_mono k1 (Nat.le_succ _), by rw [sel_small k1, k2]⟩
  · rw [len]
    rcases List.mem_append.mp he with he | he
    · obtain ⟨k1, k2, k3⟩ := h.ek e he
      exact ⟨pow_mono k1 (Nat.le_succ _), k2, by rw [sel_small k1, k3]⟩
    · rw [List.mem_singleton.mp he]
      exact ⟨s1, s2, s3⟩
  · rw [len] at hq
    refine span_more h.all s4 _ (fun x hx => ?_) ?_ hq (y := 0)
    · rw [← List.append_assoc]; exact List.mem_append_left _ hx
    · rw [← s5]; simp
  · have := h.cnt
    simp
    omega
theorem Elim.more {m t : Nat} (h : Elim b L E ms) (hm : m < 2 ^ b) (h0 : (red L (m, 2 ^ ms.length)).1 ≠ 0) (t1 : (red L (m, 2 ^ ms.length)).1.testBit t = true) (t2 : ∀ j, j < t → (red L (m, 2 ^ ms.length)).1.testBit j = false) :
    Elim b (L ++ [(t, red L (m, 2 ^ ms.length))]) E (ms ++ [m]) ∧ t ∉ L.map (·.1) := by
  obtain ⟨h1, h2⟩ := red_spec h.low h.nd (m, 2 ^ ms.length)
  obtain ⟨s1, s2, s3, z, s4, s5⟩ := h.step m
  generalize red L (m, 2 ^ ms.length) = r at *
  have len : (ms ++ [m]).length = ms.length + 1 := by simp
  have h2 := h2.fst
  rw [map_f] at h2
  have hlt : r.1 < 2 ^ b := by
    have q := h2.bound (n := b) fun x hx => by
      obtain ⟨p, hp, rfl⟩ := List.mem_map.mp hx
      exact h.lm p hp
    have := Nat.xor_lt_two_pow hm q
    rwa [Gf.xor_x] at this
  have tb : t < b := by
    rcases Nat.lt_or_ge t b with q | q
    · exact q
    · rw [Nat.testBit_lt_two_pow (pow_mono hlt q)] at t1
      cases t1
  have tn : t ∉ L.map (·.1) := fun hx => by
    obtain ⟨p', hp, e⟩ := List.mem_map.mp hx
    have := h1 p' hp
    rw [e, t1] at this
    cases this
  refine ⟨⟨fun q hq => ?_, ?_, fun q hq => ?_, fun q hq => ?_, ?_, fun p hp => ?_, fun e he => ?_, fun q hq => ?_, ?_⟩, tn⟩
  · rcases List.mem_append.mp hq with hq | hq
    · exact h.low q hq
    · rw [List.mem_singleton.mp hq]; exact ⟨t1, t2⟩
  · rw [List.map_append]
    refine List.nodup_append.mpr ⟨h.nd, by simp, fun a ha c hc e => ?_⟩
    have hc' : c = t := by simpa using hc
    rw [hc'] at e
    subst e
    exact tn ha
  · rcases List.mem_append.mp hq with hq | hq
    · exact h.lt q hq
    · rw [List.mem_singleton.mp hq]; exact tb
  · rcases List.mem_append.mp hq with hq | hq
    · exact h.lm q hq
    · rw [List.mem_singleton.mp hq]; exact hlt
  · rw [List.map_append]
    refine h.bas.more (fun q hq => ?_) t1 (by rw [map_snd]; exact h2)
    obtain ⟨p', hp, rfl⟩ := List.mem_map.mp hq
    exact h1 p' hp
  · rw [len]
    rcases List.mem_append.mp hp with hp | hp
    · obtain ⟨k1, k2⟩ := h.pk p hp
      exact ⟨pow_mono k1 (Nat.le_succ _), by rw [sel_small k1, k2]⟩
    · rw [List.mem_singleton.mp hp]
      exact ⟨s1, s3⟩
  · rw [len]
    obtain ⟨k1, k2, k3⟩ := h.ek e he
    exact ⟨pow_mono k1 (Nat.le_succ _), k2, by rw [sel_small k1, k3]⟩
  · rw [len] at hq
    refine span_more h.all s4 _ (fun x hx => ?_) ?_ hq (y := 0)
    · rcases List.mem_append.mp hx with hx | hx
      · rw [List.map_append]; exact List.mem_append_left _ (List.mem_append_left _ hx)
      · exact List.mem_append_right _ hx
    · rw [← s5]; simp
  · have := h.cnt
    simp
    omega
end
theorem put_ld {L : Leads} {t x p : Nat} (h : t ∉ L.map (·.1)) : putD (ldK L) (.inl (t : Int)) (.tup [iN x, iN p]) = ldK (L ++ [(t, x, p)]) := by
  unfold putD ldK
  rw [if_neg, List.map_append]
  · rfl
  · intro q
    obtain ⟨z, hz, e⟩ := List.any_eq_true.mp q
    obtain ⟨p', hp, rfl⟩ := List.mem_map.mp hz
    have e := of_decide_eq_true e
    simp only [Sum.inl.injEq] at e
    exact h (List.mem_map.mpr ⟨p', hp, by omega⟩)
theorem put_ldD {L : Leads} {t x p : Nat} (h : t ∉ L.map (·.1)) (hl : L.length ≤ 100000) : gPut (ldD L) (iN t) (.tup [iN x, iN p]) = some (ldD (L ++ [(t, x, p)])) := by
  unfold ldD
  rw [gPut_dct (by rw [ldK_len]; exact hl), put_ld h]
theorem p_eliminated {b : Nat} {ms : List Nat} (hb : b ≤ 63) (hl : ms.length ≤ 1000) (hm : ∀ m ∈ ms, m < 2 ^ b) : ∃ L E, d_eliminated [.lst (ms.map iN)] = .ok [] (.tp [.own (ldD L), .own (.lst (E.map iN))]) ∧ Elim b L E ms := by
  obtain ⟨ρ', e, L, E, x3, x4, x5, x6, rfl, he⟩ := loop_e (g := storeN [3, 4]) (b := x_eliminated_1) iN (fun d ρ => ∃ L E x3 x4 x5 x6, ρ = [.ln (.lst (ms.map iN)), .own (ldD L), .own (.lst (E.map iN)), x3, x4, x5, x6] ∧ Elim b L E d)
    (xs := ms) (ρ := [.ln (.lst (ms.map iN)), .own (.dct []), .own (.lst []), .un, .un, .un, .un]) ⟨[], [], _, _, _, _, rfl, .nil⟩ (by
    rintro d m t ρ hx ⟨L, E, x3, x4, x5, x6, rfl, he⟩
    have hdl : d.length ≤ 1000 := by
      have := congrArg List.length hx
      simp at this
      omega
    have hmb := hm m (by rw [hx]; simp)
    have hL := he.len
    have hc := he.cnt
    have pr := p_reduced (L := L) (m := m) (p := 2 ^ d.length) (by omega)
    have hE2 : E.length ≤ 100000 := by omega
    have hd2 : d.length ≤ 100000 := by omega
    by_cases hz : (red L (m, 2 ^ d.length)).1 = 0
    · have h2 := he.zero hz
      simp [x_eliminated_1, hd2, pr, hz, hE2]
      exact ⟨L, _, ⟨rfl, by simp⟩, h2⟩
    · have hp := Nat.pos_of_ne_zero hz
      obtain ⟨t1, t2, _⟩ := lsb_spec hp
      obtain ⟨k1, k2⟩ := he.more hmb hz t1 t2
      have hL2 : L.length ≤ 100000 := by omega
      simp [x_eliminated_1, hd2, pr, hz, hp, put_ldD k2 hL2]
      exact ⟨_, _, ⟨rfl, rfl⟩, k1⟩)
  have e' : dLoop (storeN [3, 4]) x_eliminated_1 (enumItems (ms.map iN)) [.ln (.lst (ms.map iN)), .own (ldD []), .own (.lst []), .un, .un, .un, .un] = _ := e
  exact ⟨L, E, by simp [d_eliminated, b_eliminated, e], he⟩
theorem p_rank_of {b : Nat} {ms : List Nat} (hb : b ≤ 63) (hl : ms.length ≤ 1000) (hm : ∀ m ∈ ms, m < 2 ^ b) : d_rank_of [.lst (ms.map iN)] = .ok [] (.fz (iN (Gf.rk ms))) := by
  obtain ⟨L, E, e, he⟩ := p_eliminated hb hl hm
  simp [d_rank_of, b_rank_of, e, he.rk]
end PG
namespace PG
open DN Gf
open L2 (Key)
open PySem (PyData Str)
theorem len_app {α : Type} {ms d : List α} {x : α} {t : List α} (h : ms = d ++ x :: t) : d.length < ms.length := by
  rw [h]; simp
theorem two_pow_lt {b : Nat} (h : b ≤ 399) : 2 ^ b < 2 ^ 400 := Nat.pow_lt_pow_right (by decide) (by omega)
theorem small_lt {n : Nat} (h : n < 2 ^ 60) : n < 2 ^ 400 := Nat.lt_trans h (Nat.pow_lt_pow_right (by decide) (by decide))
theorem p_draw' {m n : Nat} {s : D} (h : Src m s) (hm : m < 10 ^ 9) (hn : 0 < n) (hl : n < 2 ^ 60) : ∃ (s' : D) (r : Nat), d__law_draw [s, iN n] = .ok [s'] (.fz (iN r)) ∧ Src (m + 1) s' ∧ r < n := p_draw h hm hn (small_lt hl)
theorem p_drawB {m b : Nat} {s : D} (h : Src m s) (hm : m < 10 ^ 9) (hb : b ≤ 399) : ∃ (s' : D) (r : Nat), d__law_draw [s, iN (2 ^ b)] = .ok [s'] (.fz (iN r)) ∧ Src (m + 1) s' ∧ r < 2 ^ b := p_draw h hm (Nat.two_pow_pos b) (two_pow_lt hb)
end PG
namespace PG
open DN Gf
open L2 (Key)
open PySem (PyData Str)
theorem p_parity {n : Nat} (hn : n < 2 ^ 128) : d_parity [iN n] = .ok [] (.fz (iN (par n).toNat)) := by
  have e := par_folds hn
  obtain ⟨ρ', el, x, rfl⟩ := loop_l (g := store 2) (b := x_parity_1) iN (fun d ρ => ∃ x, ρ = [.fz (iN n), .fz (iN (d.foldl foldP n)), x]) (xs := [64, 32, 16, 8, 4, 2, 1]) (ρ := [.fz (iN n), .fz (iN n), .un]) ⟨_, rfl⟩ (by
    rintro d h t ρ hx ⟨x, rfl⟩
    rw [List.foldl_append]
    generalize d.foldl foldP n = z
    simp [x_parity_1, foldP])
  have el' : dLoop (store 2) x_parity_1 (fzs [iN 64, iN 32, iN 16, iN 8, iN 4, iN 2, iN 1]) [.fz (iN n), .fz (iN n), .un] = _ := el
  rw [← e]
  simp only [List.foldl_cons, List.foldl_nil] at el'
  generalize foldP (foldP (foldP (foldP (foldP (foldP (foldP n 64) 32) 16) 8) 4) 2) 1 = z at *
  have hz : z &&& 1 = (z.testBit 0).toNat := by
    rw [Nat.and_one_is_mod, Nat.testBit_zero]
    rcases Nat.mod_two_eq_zero_or_one z with h | h <;> rw [h] <;> rfl
  have hg : gAnd (iN z) (iN 1) = some (.fz (iN (z.testBit 0).toNat)) := by rw [gAnd_N, hz]
  simp [d_parity, b_parity, el', hg]
theorem p_odd {n : Nat} (hn : n < 2 ^ 1000) : d__law_odd [iN n] = .ok [] (.fz (iN (par n).toNat)) := by
  obtain ⟨ρ', e, x, rfl⟩ := while_fuel (c := x__law_odd_1) (b := x__law_odd_2)
    (fun k ρ => ∃ (s : Sl) (m : Nat) (b : Bool), ρ = [s, .fz (iN b.toNat)] ∧ (s = .ln (iN m) ∨ s = .fz (iN m)) ∧ pc m = k ∧ (b ^^ par m) = par n)
    (fun ρ => ∃ x, ρ = [x, .fz (iN (par n).toNat)]) (n := pc n) (ρ := [.ln (iN n), .fz (iN 0)]) (by have := pc_le hn; omega) ⟨_, n, false, rfl, .inl rfl, rfl, by simp⟩ (by
    rintro k ρ ⟨s, m, b, rfl, hs, rfl, hb⟩
    have go : ∀ s : Sl, (s = .ln (iN m) ∨ s = .fz (iN m)) → WGo (fun ρ1 => Goes (fun ρ2 => ∃ m_1, m_1 < pc m ∧ ∃ (s : Sl) (m : Nat) (b : Bool), ρ2 = [s, .fz (iN b.toNat)] ∧ (s = .ln (iN m) ∨ s = .fz (iN m)) ∧ pc m = m_1 ∧ (b ^^ par m) = par n) (x__law_odd_2 ρ1)) (fun ρ => ∃ x, ρ = [x, .fz (iN (par n).toNat)]) (x__law_odd_1 [s, .fz (iN b.toNat)]) := by
      intro s hs
      by_cases h0 : m = 0
      · subst h0
        rw [par_zero, Bool.xor_false] at hb
        subst hb
        rcases hs with rfl | rfl <;> simp [x__law_odd_1]
      · have hp := Nat.pos_of_ne_zero h0
        have h1 : 1 ≤ m := hp
        have h2 := pc_low m hp
        have h3 := par_low hp
        have h4 : gSub (iN 1) (iN b.toNat) = some (.fz (iN (!b).toNat)) := by cases b <;> rfl
        have fin : ∃ m_1, m_1 < pc m ∧ ∃ (s : Sl) (m' : Nat) (b' : Bool), ([.fz (iN (m &&& m - 1)), .fz (iN (!b).toNat)] : Env) = [s, .fz (iN b'.toNat)] ∧ (s = .ln (iN m') ∨ s = .fz (iN m')) ∧ pc m' = m_1 ∧ (b' ^^ par m') = par n :=
          ⟨pc (m &&& m - 1), by omega, _, _, !b, rfl, .inr rfl, rfl, by rw [← hb, h3]; cases b <;> cases par (m &&& m - 1) <;> rfl⟩
        have e1 : x__law_odd_1 [s, .fz (iN b.toNat)] = .ok [s, .fz (iN b.toNat)] true := by rcases hs with rfl | rfl <;> simp [x__law_odd_1, hp]
        have e2 : x__law_odd_2 [s, .fz (iN b.toNat)] = .ok [.fz (iN (m &&& m - 1)), .fz (iN (!b).toNat)] .nx := by rcases hs with rfl | rfl <;> simp [x__law_odd_2, h1, h4]
        rw [e1, wgo_t, e2, goes_nx]
        exact fin
    exact go s hs)
  simp [d__law_odd, b__law_odd, e]
/-- where a stage moves the value of a place -/
def stg (t : Tri) (x : Nat) : Nat := x ^^^ (par (t.b &&& x) ^^ decide (t.c = 1)).toNat * 2 ^ t.a
theorem bool_le (b : Bool) : b.toNat ≤ 1 := Bool.toNat_le b
theorem bit_lt {b i : Nat} (h : i < b) (c : Bool) : c.toNat * 2 ^ i < 2 ^ b := by
  have h1 : 2 ^ i < 2 ^ b := Nat.pow_lt_pow_right (by decide) h
  cases c
  · simp [Nat.two_pow_pos]
  · simpa using h1
theorem gNe2_tup0 : gNe2 (.tup []) (.tup []) = some (.fz (.bl false)) := by rfl
theorem andN_lt {a b n : Nat} (h : a < 2 ^ n) : andN a b < 2 ^ n := by
  have := andN_add a b
  omega
theorem p_spots {b : Nat} (hb : b ≤ 19) : d__law_spots [iN b] = .ok [] (.own (.lst ((List.range (2 ^ b)).map iN))) := by
  have h : 2 ^ b ≤ 1000000 := Nat.le_trans (Nat.pow_le_pow_right (by decide) hb) (by decide)
  have hb' : b ≤ 100000 := by omega
  simp [d__law_spots, b__law_spots, hb', h]
end PG
namespace Gf
/-- for each row the parity of what it shares with a place -/
def vec : List Nat → Nat → Nat
  | [], _ => 0
  | r :: rs, x => (par (r &&& x)).toNat + 2 * vec rs x
theorem vec_half (r : Nat) (rs : List Nat) (x : Nat) : vec (r :: rs) x / 2 = vec rs x ∧ (vec (r :: rs) x).testBit 0 = par (r &&& x) := by
  rw [vec, Nat.testBit_zero]
  cases par (r &&& x)
  · exact ⟨by simp, by simp⟩
  · exact ⟨by simp <;> omega, by simp <;> omega⟩
theorem vec_bit : ∀ (rs : List Nat) (x i : Nat), (vec rs x).testBit i = (match rs[i]? with
    | some r => par (r &&& x)
    | none => false)
  | [], x, i => by rw [vec, Nat.zero_testBit]; rfl
  | r :: rs, x, 0 => by rw [(vec_half r rs x).2]; rfl
  | r :: rs, x, i + 1 => by
    rw [Nat.testBit_succ, (vec_half r rs x).1, vec_bit rs x i, List.getElem?_cons_succ]
theorem vec_bit' {rs : List Nat} {i : Nat} (x : Nat) (h : i < rs.length) : (vec rs x).testBit i = par (rs[i] &&& x) := by
  rw [vec_bit, List.getElem?_eq_getElem h]
theorem vec_lt : ∀ (rs : List Nat) (x : Nat), vec rs x < 2 ^ rs.length
  | [], _ => by simp [vec]
  | r :: rs, x => by
    have := vec_lt rs x
    have := Bool.toNat_le (par (r &&& x))
    rw [vec, List.length_cons, Nat.pow_succ]
    omega
theorem vec_xor (rs : List Nat) (x y : Nat) : vec rs (x ^^^ y) = vec rs x ^^^ vec rs y := by
  refine Nat.eq_of_testBit_eq fun i => ?_
  rw [Nat.testBit_xor, vec_bit, vec_bit, vec_bit]
  cases rs[i]? with
  | none => rfl
  | some r => exact par_and_xor r x y
theorem vec_zero : ∀ rs : List Nat, vec rs 0 = 0
  | [] => rfl
  | r :: rs => by rw [vec, vec_zero rs, Nat.and_zero]; rfl
/-- rows put together go along with places -/
theorem par_sel : ∀ (rs : List Nat) (p x : Nat), par (sel rs p &&& x) = par (p &&& vec rs x)
  | [], p, x => by rw [sel, vec, Nat.zero_and, Nat.and_zero]
  | r :: rs, p, x => by
    obtain ⟨h1, h2⟩ := vec_half r rs x
    rw [sel, par_xor_and, par_sel rs (p / 2) x, par_half (p &&& vec (r :: rs) x), Nat.and_div_two, h1, Nat.testBit_and, h2]
    congr 1
    cases p.testBit 0 <;> simp [par_zero]
theorem bit_one (c : Bool) (a i : Nat) : (c.toNat * 2 ^ a).testBit i = (c && decide (i = a)) := by
  cases c
  · simp
  · rw [Bool.toNat_true, Nat.one_mul, Nat.testBit_two_pow]
    simp [eq_comm]
/-- a mapping: its rows and its offset -/
abbrev Mp := List Nat × Nat
def app (m : Mp) (x : Nat) : Nat := m.2 ^^^ vec m.1 x
structure Map (b : Nat) (m : Mp) : Prop where
  len : m.1.length = b
  row : ∀ r ∈ m.1, r < 2 ^ b
  off : m.2 < 2 ^ b
  all : ∀ i, i < b → Span m.1 (2 ^ i)
theorem app_lt {b : Nat} {m : Mp} (h : Map b m) (x : Nat) : app m x < 2 ^ b := Nat.xor_lt_two_pow h.off (by rw [← h.len]; exact vec_lt _ _)
/-- all places are made of single bits -/
theorem span_pows {rs : List Nat} {b : Nat} (h : ∀ i, i < b → Span rs (2 ^ i)) : ∀ {x : Nat}, x < 2 ^ b → Span rs x := by
  induction b with
  | zero =>
    intro x hx
    have : x = 0 := by simpa using hx
    subst this
    exact Span.zero rs
  | succ b ih =>
    intro x hx
    have ih' := @ih fun i hi => h i (by omega)
    by_cases hb : x.testBit b = true
    · have h1 : x ^^^ 2 ^ b < 2 ^ b := by
        refine Nat.lt_pow_two_of_testBit _ fun i hi => ?_
        rw [Nat.testBit_xor, Nat.testBit_two_pow]
        by_cases e : b = i
        · subst e; simp [hb]
        · rw [Nat.testBit_lt_two_pow (Nat.lt_of_lt_of_le hx (Nat.pow_le_pow_right (by decide) (by omega)))]
          simp [e]
      have := (ih' h1).xor (h b (Nat.lt_succ_self b))
      rwa [xor_d] at this
    · refine ih' (Nat.lt_pow_two_of_testBit _ fun i hi => ?_)
      by_cases e : b = i
      · subst e; exact Bool.eq_false_iff.mpr hb
      · exact Nat.testBit_lt_two_pow (Nat.lt_of_lt_of_le hx (Nat.pow_le_pow_right (by decide) (by omega)))
theorem Map.span {b : Nat} {m : Mp} (h : Map b m) {x : Nat} (hx : x < 2 ^ b) : Span m.1 x := span_pows h.all hx
theorem Map.rk {b : Nat} {m : Mp} (h : Map b m) : rk m.1 = b := by
  have : Lists m.1 (List.range (2 ^ b)) := ⟨List.nodup_range, fun x => by
    rw [List.mem_range]
    exact ⟨fun q => h.span q, fun q => q.bound h.row⟩⟩
  have := this.length
  rw [List.length_range] at this
  exact ((Nat.pow_right_inj (a := 2) (by decide)).mp this).symm
/-- if no row is made of those ahead the rows make all -/
theorem Map.of_rk {b : Nat} {m : Mp} (len : m.1.length = b) (row : ∀ r ∈ m.1, r < 2 ^ b) (off : m.2 < 2 ^ b) (h : Gf.rk m.1 = b) : Map b m := by
  refine ⟨len, row, off, fun i hi => ?_⟩
  obtain ⟨S, h1, h2⟩ := lists_ex m.1
  rw [h] at h2
  have hb : ∀ x ∈ S, x < 2 ^ b := fun x hx => ((h1.2 x).mp hx).bound row
  have : 2 ^ i ∈ S := by
    refine Classical.byContradiction fun q => ?_
    have := nodup_le (n := 2 ^ b) (List.nodup_cons.mpr ⟨q, h1.1⟩) fun x hx => by
      rcases List.mem_cons.mp hx with rfl | hx
      · exact Nat.pow_lt_pow_right (by decide) hi
      · exact hb x hx
    rw [List.length_cons, h2] at this
    omega
  exact (h1.2 _).mp this
/-- rows with which each single bit is made -/
theorem Map.pick {b : Nat} {m : Mp} (h : Map b m) {x : Nat} (hx : x < 2 ^ b) : ∃ p, p < 2 ^ b ∧ sel m.1 p = x := by
  obtain ⟨p, h1, h2⟩ := span_sel (h.span hx)
  rw [h.len] at h1
  exact ⟨p, h1, h2⟩
theorem vec_inj {b : Nat} {m : Mp} (h : Map b m) {x : Nat} (hx : x < 2 ^ b) (e : vec m.1 x = 0) : x = 0 := by
  refine Nat.eq_of_testBit_eq fun i => ?_
  rw [Nat.zero_testBit]
  by_cases hi : i < b
  · obtain ⟨p, _, h2⟩ := h.pick (Nat.pow_lt_pow_right (a := 2) (by decide) hi)
    have := par_sel m.1 p x
    rw [h2, e, Nat.and_zero, par_zero, Nat.and_comm, par_and_pow] at this
    exact this
  · exact Nat.testBit_lt_two_pow (Nat.lt_of_lt_of_le hx (Nat.pow_le_pow_right (by decide) (by omega)))
theorem app_inj {b : Nat} {m : Mp} (h : Map b m) {x y : Nat} (hx : x < 2 ^ b) (hy : y < 2 ^ b) (e : app m x = app m y) : x = y := by
  unfold app at e
  have e2 : vec m.1 x = vec m.1 y := by
    have := congrArg (m.2 ^^^ ·) e
    simpa only [xor_x] using this
  have : vec m.1 (x ^^^ y) = 0 := by rw [vec_xor, e2, Nat.xor_self]
  exact xor_eq_zero.mp (vec_inj h (Nat.xor_lt_two_pow hx hy) this)
/-- the mapping that leaves each place as it is -/
def idM (b : Nat) : Mp := ((List.range b).map fun i => 2 ^ i, 0)
theorem Map.id (b : Nat) : Map b (idM b) := by
  refine ⟨by simp [idM], fun r hr => ?_, Nat.two_pow_pos b, fun i hi => .mem ?_⟩
  · simp only [idM, List.mem_map, List.mem_range] at hr
    obtain ⟨i, hi, rfl⟩ := hr
    exact Nat.pow_lt_pow_right (by decide) hi
  · simp only [idM, List.mem_map, List.mem_range]
    exact ⟨i, hi, rfl⟩
theorem vec_pows (b x : Nat) : vec ((List.range b).map fun i => 2 ^ i) x = x % 2 ^ b := by
  refine Nat.eq_of_testBit_eq fun i => ?_
  rw [vec_bit, Nat.testBit_mod_two_pow, List.getElem?_map]
  by_cases hi : i < b
  · rw [List.getElem?_range hi]
    simp only [Option.map_some, Nat.and_comm (2 ^ i), par_and_pow, hi, decide_true, Bool.true_and]
  · rw [List.getElem?_eq_none (by simpa using hi)]
    simp [hi]
def bitsN (p : Nat) : List Nat := (List.range (if p = 0 then 0 else p.log2 + 1)).filter fun i => p.testBit i
theorem mem_bitsN {p i : Nat} : i ∈ bitsN p ↔ p.testBit i = true := by
  unfold bitsN
  rw [List.mem_filter, List.mem_range]
  constructor
  · exact fun h => h.2
  · intro h
    refine ⟨?_, h⟩
    by_cases h0 : p = 0
    · subst h0; rw [Nat.zero_testBit] at h; cases h
    · rw [if_neg h0]
      rcases Nat.lt_or_ge i (p.log2 + 1) with q | q
      · exact q
      · rw [Nat.testBit_lt_two_pow (Nat.lt_of_lt_of_le Nat.lt_log2_self (Nat.pow_le_pow_right (by decide) q))] at h
        cases h
theorem bitsN_nodup (p : Nat) : (bitsN p).Nodup := List.nodup_range.filter _
theorem bitsN_lt (p : Nat) : (bitsN p).Pairwise (· < ·) := List.pairwise_lt_range.filter _
/-- the number with some bits -/
def mk (is : List Nat) : Nat := is.foldl (fun a i => a ^^^ 2 ^ i) 0
theorem foldl_xor (f : Nat → Nat) : ∀ (is : List Nat) (a : Nat), is.foldl (fun a i => a ^^^ f i) a = a ^^^ is.foldl (fun a i => a ^^^ f i) 0
  | [], a => by simp
  | i :: is, a => by
    rw [List.foldl_cons, List.foldl_cons, foldl_xor f is (a ^^^ f i), foldl_xor f is (0 ^^^ f i), Nat.zero_xor, Nat.xor_assoc]
theorem mk_cons (i : Nat) (is : List Nat) : mk (i :: is) = 2 ^ i ^^^ mk is := by
  unfold mk
  rw [List.foldl_cons, foldl_xor, Nat.zero_xor]
theorem mk_bit : ∀ {is : List Nat} (j : Nat), is.Nodup → (mk is).testBit j = decide (j ∈ is)
  | [], j, _ => by simp [mk]
  | i :: is, j, h => by
    obtain ⟨h1, h2⟩ := List.nodup_cons.mp h
    rw [mk_cons, Nat.testBit_xor, mk_bit j h2, Nat.testBit_two_pow]
    by_cases e : i = j
    · subst e; simp [h1]
    · have : ¬ j = i := fun q => e q.symm
      simp [e, this]
theorem mk_bits (p : Nat) : mk (bitsN p) = p := by
  refine Nat.eq_of_testBit_eq fun j => ?_
  rw [mk_bit j (bitsN_nodup p)]
  cases h : p.testBit j
  · exact decide_eq_false fun q => by rw [mem_bitsN, h] at q; cases q
  · exact decide_eq_true (mem_bitsN.mpr h)
theorem sel_mk : ∀ {rs is : List Nat}, (∀ i ∈ is, i < rs.length) → sel rs (mk is) = is.foldl (fun a i => a ^^^ rs.getD i 0) 0
  | rs, [], _ => by simp [mk, sel_zero]
  | rs, i :: is, h => by
    have hi := h i List.mem_cons_self
    rw [mk_cons, sel_xor, sel_pow rs i hi, sel_mk fun j hj => h j (List.mem_cons_of_mem _ hj), List.foldl_cons, foldl_xor _ is (0 ^^^ rs.getD i 0), Nat.zero_xor]
    simp [List.getD, hi]
theorem sel_bits {rs : List Nat} {p : Nat} (h : p < 2 ^ rs.length) : (bitsN p).foldl (fun a i => a ^^^ rs.getD i 0) 0 = sel rs p := by
  rw [← sel_mk fun i hi => ?_, mk_bits]
  have := mem_bitsN.mp hi
  rcases Nat.lt_or_ge i rs.length with q | q
  · exact q
  · rw [Nat.testBit_lt_two_pow (Nat.lt_of_lt_of_le h (Nat.pow_le_pow_right (by decide) q))] at this
    cases this
/-- rows with which single bits are made lead back -/
theorem vec_back {b : Nat} {rs ps : List Nat} (hl : ps.length = b) (h : ∀ i (hi : i < ps.length), sel rs ps[i] = 2 ^ i) {x : Nat} (hx : x < 2 ^ b) : vec ps (vec rs x) = x := by
  refine Nat.eq_of_testBit_eq fun i => ?_
  by_cases hi : i < ps.length
  · rw [vec_bit' _ hi, ← par_sel, h i hi, Nat.and_comm, par_and_pow]
  · rw [vec_bit, List.getElem?_eq_none (by omega)]
    exact (Nat.testBit_lt_two_pow (Nat.lt_of_lt_of_le hx (Nat.pow_le_pow_right (by decide) (by omega)))).symm
end Gf
namespace PG
open DN Gf
open L2 (Key)
open PySem (PyData Str)
theorem two_lt {x n m : Nat} (h : x < 2 ^ n) (q : n ≤ m) : x < 2 ^ m := Nat.lt_of_lt_of_le h (Nat.pow_le_pow_right (by decide) q)
theorem and_lt {a c n : Nat} (h : a < 2 ^ n) : a &&& c < 2 ^ n := Nat.lt_of_le_of_lt Nat.and_le_left h
theorem idx_len {α : Type} {xs : List α} {i : Nat} {x : α} (h : xs[i]? = some x) : i < xs.length := (List.getElem?_eq_some_iff.mp h).1
/-- a list told as a mapping (rows, offset) -/
@[simp] theorem gEq2_mp' (x y : List Nat) (a b : Nat) : gEq2 (.tup [.lst (x.map iN), iN a]) (.tup [.lst (y.map iN), iN b]) = some (.fz (.bl (decide ((x, a) = (y, b))))) := gEq2_mp (x, a) (y, b)
@[simp] theorem gNe2_mp' (x y : List Nat) (a b : Nat) : gNe2 (.tup [.lst (x.map iN), iN a]) (.tup [.lst (y.map iN), iN b]) = some (.fz (.bl (!decide ((x, a) = (y, b))))) := gNe2_mp (x, a) (y, b)
theorem sum_vec : ∀ (rs : List Nat) (k x : Nat), ((rs.zipIdx k).map fun q => (par (q.1 &&& x)).toNat * 2 ^ q.2).sum = vec rs x * 2 ^ k
  | [], k, x => by simp [vec]
  | r :: rs, k, x => by
    rw [List.zipIdx_cons, List.map_cons, List.sum_cons, sum_vec rs (k + 1) x, vec, Nat.add_mul, Nat.pow_succ]
    simp only [Nat.mul_assoc, Nat.mul_comm, Nat.mul_left_comm]
theorem bt_shl {c : Bool} {i : Nat} (h : i ≤ 100000) : gShl (iN c.toNat) (iN i) = some (.fz (iN (c.toNat * 2 ^ i))) := gShl_N 1 (by have := bool_le c; omega) (by omega)
theorem p_moved {rs : List Nat} {o x : Nat} (hl : rs.length ≤ 1000) (hr : ∀ r ∈ rs, r < 2 ^ 128) : d_moved [.tup [.lst (rs.map iN), iN o], iN x] = .ok [] (.fz (iN (app (rs, o) x))) := by
  have e := lc_enum (g := storeN [4, 5]) (t := dYes) (f := x_moved_1) (vs := [4, 5]) (ρ := [.fz (.tup [.lst (rs.map iN), iN o]), .ln (iN x), .fz (.lst (rs.map iN)), .fz (iN o), .un, .un]) iN (fun _ _ => true) (fun i r => iN ((par (r &&& x)).toNat * 2 ^ i)) (xs := rs) (fun i r h => by
    have hr' := hr r (List.mem_of_getElem? h)
    have hi := idx_len h
    have e1 := p_parity (n := r &&& x) (and_lt hr')
    have e2 := bt_shl (c := par (r &&& x)) (i := i) (by omega)
    simp [x_moved_1, e1, e2]) (by omega)
  have e2 : ((rs.zipIdx.filter fun q => true).map fun q => iN ((par (q.1 &&& x)).toNat * 2 ^ q.2)) = ((rs.zipIdx).map fun q => (par (q.1 &&& x)).toNat * 2 ^ q.2).map iN := by
    rw [List.filter_eq_self.mpr (by simp), List.map_map]
    rfl
  rw [e2] at e
  have e3 := gSum_N ((rs.zipIdx).map fun q => (par (q.1 &&& x)).toNat * 2 ^ q.2)
  have e4 := sum_vec rs 0 x
  rw [Nat.pow_zero, Nat.mul_one] at e4
  rw [e4] at e3
  generalize ((rs.zipIdx).map fun q => (par (q.1 &&& x)).toNat * 2 ^ q.2) = zs at *
  simp [d_moved, b_moved, e, e3, app]
theorem p_goal {rs : List Nat} {o x : Nat} (hl : rs.length ≤ 1000) (hr : ∀ r ∈ rs, r < 2 ^ 1000) : d__law_goal [.tup [.lst (rs.map iN), iN o], iN x] = .ok [] (.fz (iN (app (rs, o) x))) := by
  obtain ⟨ρ', e, y5, y6, rfl⟩ := loop_e (g := storeN [5, 6]) (b := x__law_goal_1) iN (fun d ρ => ∃ y5 y6, ρ = [.fz (.tup [.lst (rs.map iN), iN o]), .ln (iN x), .fz (.lst (rs.map iN)), .fz (iN o), .fz (iN (app (d, o) x)), y5, y6]) (xs := rs) (ρ := [.fz (.tup [.lst (rs.map iN), iN o]), .ln (iN x), .fz (.lst (rs.map iN)), .fz (iN o), .fz (iN o), .un, .un]) ⟨.un, .un, by simp [app, vec]⟩ (by
    rintro d r u ρ hx ⟨y5, y6, rfl⟩
    have hd := len_app hx
    have e1 := p_odd (n := r &&& x) (and_lt (hr r (by rw [hx]; simp)))
    have e2 := bt_shl (c := par (r &&& x)) (i := d.length) (by omega)
    have e3 : app (d ++ [r], o) x = app (d, o) x ^^^ (par (r &&& x)).toNat * 2 ^ d.length := by
      unfold app
      rw [Nat.xor_assoc]
      congr 1
      refine Nat.eq_of_testBit_eq fun i => ?_
      rw [Nat.testBit_xor, bit_one, vec_bit, vec_bit]
      by_cases h : i < d.length
      · have h2 : ¬ i = d.length := by omega
        rw [List.getElem?_append_left h]
        simp [h2]
      · by_cases h2 : i = d.length
        · subst h2
          simp
        · rw [List.getElem?_eq_none (by simp; omega), List.getElem?_eq_none (show d.length ≤ i by omega)]
          simp [h2]
    rw [e3]
    generalize app (d, o) x = z
    simp [x__law_goal_1, e1, e2])
  simp [d__law_goal, b__law_goal, e]
/-- what is kept while rows are looked at -/
structure Elim0 (b : Nat) (L : Leads) (ms : List Nat) : Prop where
  low : Low L
  nd : (L.map (·.1)).Nodup
  lt : ∀ p ∈ L, p.1 < b
  lm : ∀ p ∈ L, p.2.1 < 2 ^ b
  bas : Basis (L.map fun p => (p.1, p.2.1)) ms
theorem Elim0.nil {b : Nat} : Elim0 b [] [] := ⟨fun p hp => (nomatch hp), List.nodup_nil, fun p hp => (nomatch hp), fun p hp => (nomatch hp), Basis.nil⟩
theorem Elim.to0 {b : Nat} {L : Leads} {E ms : List Nat} (h : Elim b L E ms) : Elim0 b L ms := ⟨h.low, h.nd, h.lt, h.lm, h.bas⟩
section
variable {b : Nat} {L : Leads} {ms : List Nat}
theorem Elim0.len (h : Elim0 b L ms) : L.length ≤ b := by
  have := nodup_le h.nd (n := b) fun x hx => by
    obtain ⟨p, hp, rfl⟩ := List.mem_map.mp hx
    exact h.lt p hp
  rwa [List.length_map] at this
theorem Elim0.rk (h : Elim0 b L ms) : L.length = Gf.rk ms := by
  have := h.bas.len
  rwa [List.length_map] at this
/-- nothing is left just of what can be made -/
theorem Elim0.left (h : Elim0 b L ms) (m p : Nat) : (red L (m, p)).1 = 0 ↔ Span ms m := by
  obtain ⟨h1, h2⟩ := red_spec h.low h.nd (m, p)
  have h2 := h2.fst
  rw [map_f, ← map_snd] at h2
  constructor
  · intro hz
    rw [hz, Nat.xor_zero] at h2
    exact (h.bas.span m).mp h2
  · intro hm
    have h3 := ((h.bas.span m).mpr hm).xor h2
    rw [xor_x] at h3
    refine h.bas.ech.zero (fun q hq => ?_) h3
    obtain ⟨p', hp, rfl⟩ := List.mem_map.mp hq
    exact h1 p' hp
theorem Elim0.bound (h : Elim0 b L ms) {m : Nat} (p : Nat) (hm : m < 2 ^ b) : (red L (m, p)).1 < 2 ^ b := by
  obtain ⟨h1, h2⟩ := red_spec h.low h.nd (m, p)
  have h2 := h2.fst
  rw [map_f] at h2
  have q := h2.bound (n := b) fun x hx => by
    obtain ⟨p, hp, rfl⟩ := List.mem_map.mp hx
    exact h.lm p hp
  have := Nat.xor_lt_two_pow hm q
  rwa [xor_x] at this
theorem Elim0.more (h : Elim0 b L ms) {m : Nat} (p q : Nat) (hm : m < 2 ^ b) (h0 : (red L (m, p)).1 ≠ 0) :
    Elim0 b (L ++ [(lsb (red L (m, p)).1, (red L (m, p)).1, q)]) (ms ++ [m]) ∧ lsb (red L (m, p)).1 ∉ L.map (·.1) := by
  obtain ⟨h1, h2⟩ := red_spec h.low h.nd (m, p)
  have hlt := h.bound p hm
  have h2 := h2.fst
  rw [map_f] at h2
  obtain ⟨t1, t2, _⟩ := lsb_spec (Nat.pos_of_ne_zero h0)
  have tb := lsb_lt (Nat.pos_of_ne_zero h0) hlt
  generalize (red L (m, p)).1 = r at *
  have tn : lsb r ∉ L.map (·.1) := fun hx => by
    obtain ⟨p', hp, e⟩ := List.mem_map.mp hx
    have := h1 p' hp
    rw [e, t1] at this
    cases this
  refine ⟨⟨fun x hx => ?_, ?_, fun x hx => ?_, fun x hx => ?_, ?_⟩, tn⟩
  · rcases List.mem_append.mp hx with hx | hx
    · exact h.low x hx
    · rw [List.mem_singleton.mp hx]; exact ⟨t1, t2⟩
  · rw [List.map_append]
    refine List.nodup_append.mpr ⟨h.nd, by simp, fun a ha c hc e => ?_⟩
    have hc' : c = lsb r := by simpa using hc
    rw [hc'] at e
    subst e
    exact tn ha
  · rcases List.mem_append.mp hx with hx | hx
    · exact h.lt x hx
    · rw [List.mem_singleton.mp hx]; exact tb
  · rcases List.mem_append.mp hx with hx | hx
    · exact h.lm x hx
    · rw [List.mem_singleton.mp hx]; exact hlt
  · rw [List.map_append]
    refine h.bas.more (fun x hx => ?_) t1 (by rw [map_snd]; exact h2)
    obtain ⟨p', hp, rfl⟩ := List.mem_map.mp hx
    exact h1 p' hp
end
/-- in rows as many as their rank none is made of those ahead -/
theorem rkFrom_le (a : List Nat) : ∀ ms : List Nat, rkFrom a ms ≤ ms.length := by
  intro ms
  induction ms generalizing a with
  | nil => exact Nat.le_refl _
  | cons m ms ih =>
    have := ih (a ++ [m])
    rw [rkFrom, List.length_cons]
    split <;> omega
theorem ahead_out {d t : List Nat} {m : Nat} (h : rk (d ++ m :: t) = (d ++ m :: t).length) : ¬ Span d m := fun hs => by
  have h1 : rk (d ++ m :: t) = rkFrom [] d + rkFrom d (m :: t) := by
    unfold rk
    rw [rkFrom_app, List.nil_append]
  have h2 := rkFrom_le [] d
  have h3 := rkFrom_le (d ++ [m]) t
  rw [rkFrom, if_pos hs] at h1
  rw [List.length_append, List.length_cons] at h
  omega
theorem p_mapping_fault {b : Nat} {m : Mp} (h1 : 1 ≤ b) (hb : b ≤ 60) (h : Map b m) : d_mapping_fault [.tup [.lst (m.1.map iN), iN m.2]] = .ok [] (.tp []) := by
  obtain ⟨rs, o⟩ := m
  have hl : rs.length = b := h.len
  obtain ⟨ρ', e, L, y4, y5, y6, rfl, he⟩ := loop_e (g := storeN [4, 5]) (b := x_mapping_fault_1) iN (fun d ρ => ∃ (L : Leads) (y4 y5 y6 : Sl), ρ = [.fz (.tup [.lst (rs.map iN), iN o]), .fz (.lst (rs.map iN)), .fz (iN o), .own (ldD L), y4, y5, y6] ∧ Elim0 b L d) (xs := rs) (ρ := [.fz (.tup [.lst (rs.map iN), iN o]), .fz (.lst (rs.map iN)), .fz (iN o), .own (ldD []), .un, .un, .un]) ⟨[], _, _, _, rfl, .nil⟩ (by
    rintro d r u ρ hx ⟨L, y4, y5, y6, rfl, he⟩
    have hr : r < 2 ^ b := h.row r (by show r ∈ rs; rw [hx]; simp)
    have hL := he.len
    have hr2 : r < 2 ^ rs.length := by rw [hl]; exact hr
    have hl99 : rs.length ≤ 99 := by omega
    have pr := p_reduced (L := L) (m := r) (p := 0) (by omega)
    have hout : ¬ Span d r := ahead_out (t := u) (by
      have := h.rk
      rw [← hx]
      exact this.trans hl.symm)
    have hz : (red L (r, 0)).1 ≠ 0 := fun q => hout ((he.left r 0).mp q)
    have hp := Nat.pos_of_ne_zero hz
    obtain ⟨k1, k2⟩ := he.more 0 0 hr hz
    have hL2 : L.length ≤ 100000 := by omega
    have eg := put_ldD (x := (red L (r, 0)).1) (p := 0) k2 hL2
    simp [x_mapping_fault_1, p_is_place hl99, hr2, pr, hz, hp, eg]
    exact ⟨_, rfl, k1⟩)
  have e : dLoop (storeN [4, 5]) x_mapping_fault_1 (enumItems (rs.map iN)) [.fz (.tup [.lst (rs.map iN), iN o]), .fz (.lst (rs.map iN)), .fz (iN o), .own (.dct []), .un, .un, .un] = _ := e
  have h2 : 1 ≤ rs.length := by omega
  have h3 : rs.length ≤ 60 := by omega
  have h4 : o < 2 ^ rs.length := by rw [hl]; exact h.off
  have hl99 : rs.length ≤ 99 := by omega
  simp [d_mapping_fault, b_mapping_fault, h2, h3, e, p_is_place hl99, h4]
theorem p_need_mapping {b : Nat} {m : Mp} (h1 : 1 ≤ b) (hb : b ≤ 60) (h : Map b m) : d_need_mapping [.tup [.lst (m.1.map iN), iN m.2]] = .ok [] (.fz .non) := by
  simp [d_need_mapping, b_need_mapping, p_mapping_fault h1 hb h, gNe2_tup0]
/-- the picks of what single bits are made of -/
theorem Elim.pick {b : Nat} {L : Leads} {E rs : List Nat} (h : Elim b L E rs) {x : Nat} (hx : Span rs x) : (red L (x, 0)).2 < 2 ^ rs.length ∧ sel rs (red L (x, 0)).2 = x := by
  obtain ⟨h1, h2⟩ := red_spec h.low h.nd (x, 0)
  have hz := (h.to0.left x 0).mpr hx
  rw [hz, Nat.xor_zero, Nat.zero_xor] at h2
  constructor
  · have h3 := h2.snd
    rw [map_s] at h3
    exact h3.bound fun y hy => by
      obtain ⟨p, hp, rfl⟩ := List.mem_map.mp hy
      exact (h.pk p hp).1
  · exact SpanP.sel (fun q hq => by
      obtain ⟨p, hp, rfl⟩ := List.mem_map.mp hq
      exact (h.pk p hp).2) h2
/-- n leads m back -/
structure Back (b : Nat) (m n : Mp) : Prop where
  map : Map b n
  back : ∀ x, x < 2 ^ b → app n (app m x) = x
  forth : ∀ x, x < 2 ^ b → app m (app n x) = x
/-- an injective one is a mapping -/
theorem Map.of_inj {b : Nat} {m : Mp} (len : m.1.length = b) (row : ∀ r ∈ m.1, r < 2 ^ b) (off : m.2 < 2 ^ b) (inj : ∀ p, p < 2 ^ b → sel m.1 p = 0 → p = 0) : Map b m := by
  refine Map.of_rk len row off ?_
  have nd : ((List.range (2 ^ b)).map (sel m.1)).Nodup := List.pairwise_map.mpr (List.Pairwise.imp_of_mem (fun {p q} hp hq h e => h (by
    have := inj (p ^^^ q) (Nat.xor_lt_two_pow (List.mem_range.mp hp) (List.mem_range.mp hq)) (by rw [sel_xor, e, Nat.xor_self])
    exact xor_eq_zero.mp this)) List.nodup_range)
  have : Lists m.1 ((List.range (2 ^ b)).map (sel m.1)) := by
    refine ⟨nd, fun x => ?_⟩
    rw [List.mem_map]
    constructor
    · rintro ⟨p, _, rfl⟩; exact sel_span _ _
    · intro h
      obtain ⟨p, h1, h2⟩ := span_sel h
      rw [len] at h1
      exact ⟨p, List.mem_range.mpr h1, h2⟩
  have := this.length
  rw [List.length_map, List.length_range] at this
  exact ((Nat.pow_right_inj (a := 2) (by decide)).mp this).symm
theorem back_of {b : Nat} {m : Mp} {P : List Nat} (h : Map b m) (hl : P.length = b) (hr : ∀ p ∈ P, p < 2 ^ b) (hs : ∀ i (hi : i < P.length), sel m.1 P[i] = 2 ^ i) : Back b m (P, vec P m.2) := by
  have hb : ∀ x, x < 2 ^ b → vec P (vec m.1 x) = x := fun x hx => vec_back hl hs hx
  have hm : Map b (P, vec P m.2) := by
    refine Map.of_inj hl hr (by rw [← hl]; exact vec_lt _ _) fun p hp e => ?_
    refine Nat.eq_of_testBit_eq fun i => ?_
    rw [Nat.zero_testBit]
    by_cases hi : i < b
    · have h1 := par_sel P p (vec m.1 (2 ^ i))
      have e : sel P p = 0 := e
      rw [e, Nat.zero_and, par_zero, hb _ (Nat.pow_lt_pow_right (by decide) hi), par_and_pow] at h1
      exact h1.symm
    · exact Nat.testBit_lt_two_pow (Nat.lt_of_lt_of_le hp (Nat.pow_le_pow_right (by decide) (by omega)))
  have hback : ∀ x, x < 2 ^ b → app (P, vec P m.2) (app m x) = x := fun x hx => by
    unfold app
    rw [vec_xor, hb x hx, xor_x]
  refine ⟨hm, hback, fun x hx => ?_⟩
  exact app_inj hm (app_lt h _) hx (hback _ (app_lt hm x))
theorem p_back {b : Nat} {m : Mp} (hb : b ≤ 60) (h : Map b m) : ∃ n : Mp, d_back [.tup [.lst (m.1.map iN), iN m.2]] = .ok [] (.tp [.fz (.lst (n.1.map iN)), .fz (iN n.2)]) ∧ Back b m n := by
  obtain ⟨rs, o⟩ := m
  have hl : rs.length = b := h.len
  obtain ⟨L, E, e1, he⟩ := p_eliminated (b := b) (ms := rs) (by omega) (by omega) h.row
  have hL := he.len
  have hp : ∀ i, i < b → (red L (2 ^ i, 0)).2 < 2 ^ b ∧ sel rs (red L (2 ^ i, 0)).2 = 2 ^ i := fun i hi => by
    have := he.pick (h.all i hi)
    rwa [hl] at this
  have hB := back_of (P := (List.range b).map fun i => (red L (2 ^ i, 0)).2) h (by simp) (fun p hp' => by
    obtain ⟨i, hi, rfl⟩ := List.mem_map.mp hp'
    exact (hp i (List.mem_range.mp hi)).1) (fun i hi => by
    rw [List.getElem_map, List.getElem_range]
    exact (hp i (by simpa using hi)).2)
  refine ⟨_, ?_, hB⟩
  have e2 := lc_map (g := store 5) (t := dYes) (f := x_back_1) (vs := [5]) (ρ := [.fz (.tup [.lst (rs.map iN), iN o]), .fz (.lst (rs.map iN)), .fz (iN o), .fz (ldD L), .un, .un]) iN (fun i => iN (red L (2 ^ i, 0)).2) (xs := List.range b) (fun i hi => by
    have hi := List.mem_range.mp hi
    have h1 : i ≤ 100000 := by omega
    have pr := p_reduced (L := L) (m := 2 ^ i) (p := 0) (by omega)
    simp [x_back_1, h1, pr]) (by simp; omega)
  have e3 := p_moved (rs := (List.range b).map fun i => (red L (2 ^ i, 0)).2) (o := 0) (x := o) (by simp; omega) (fun r hr => by
    obtain ⟨i, hi, rfl⟩ := List.mem_map.mp hr
    exact two_lt (hp i (List.mem_range.mp hi)).1 (by omega))
  have e4 : app ((List.range b).map fun i => (red L (2 ^ i, 0)).2, 0) o = vec ((List.range b).map fun i => (red L (2 ^ i, 0)).2) o := by
    unfold app
    rw [Nat.zero_xor]
  rw [e4] at e3
  have e5 : ((List.range b).map fun i => iN (red L (2 ^ i, 0)).2) = ((List.range b).map fun i => (red L (2 ^ i, 0)).2).map iN := by rw [List.map_map]; rfl
  rw [e5] at e2
  generalize (List.range b).map (fun i => (red L (2 ^ i, 0)).2) = P at *
  have hb2 : b ≤ 1000000 := by omega
  simp [d_back, b_back, e1, hl, hb2, e2, e3]
end PG
namespace PG
open DN Gf
open L2 (Key)
open PySem (PyData Str)
/-- a mapping and a stage behind it -/
def mstep (t : Tri) (m : Mp) : Mp := (m.1.set t.a (m.1.getD t.a 0 ^^^ sel m.1 t.b), stg t m.2)
def made (b : Nat) (ts : List Tri) : Mp := ts.foldl (fun m t => mstep t m) (idM b)
end PG
namespace PG
open DN Gf
open L2 (Key)
open PySem (PyData Str)
/-- what has bits that can be made can be made -/
theorem span_bits {S : List Nat} {n : Nat} : ∀ {z : Nat}, z < 2 ^ n → (∀ j, z.testBit j = true → Span S (2 ^ j)) → Span S z := by
  induction n with
  | zero =>
    intro z hz _
    have : z = 0 := by simpa using hz
    subst this
    exact Span.zero S
  | succ n ih =>
    intro z hz h
    by_cases hb : z.testBit n = true
    · have h1 : z ^^^ 2 ^ n < 2 ^ n := by
        refine Nat.lt_pow_two_of_testBit _ fun i hi => ?_
        rw [Nat.testBit_xor, Nat.testBit_two_pow]
        by_cases e : n = i
        · subst e; simp [hb]
        · rw [Nat.testBit_lt_two_pow (two_lt hz (by omega))]
          simp [e]
      have := (ih h1 fun j hj => h j (by
        rw [Nat.testBit_xor, Nat.testBit_two_pow] at hj
        by_cases e : n = j
        · subst e; exact hb
        · simpa [e] using hj)).xor (h n hb)
      rwa [xor_d] at this
    · refine ih (Nat.lt_pow_two_of_testBit _ fun i hi => ?_) h
      by_cases e : n = i
      · subst e; exact Bool.eq_false_iff.mpr hb
      · exact Nat.testBit_lt_two_pow (two_lt hz (by omega))
theorem or_xor {a z : Nat} (h : z.testBit a = false) : 2 ^ a ||| z = 2 ^ a ^^^ z := by
  refine Nat.eq_of_testBit_eq fun j => ?_
  rw [Nat.testBit_or, Nat.testBit_xor, Nat.testBit_two_pow]
  by_cases e : a = j
  · subst e; simp [h]
  · simp [e]
/-- rows put in, each of its own bit and of bits that have theirs -/
structure Tria (b : Nat) (d R : List Nat) : Prop where
  len : R.length = b
  row : ∀ r ∈ R, r < 2 ^ b
  nd : d.Nodup
  lt : ∀ j ∈ d, j < b
  all : ∀ j ∈ d, Span (d.map fun i => R.getD i 0) (2 ^ j)
theorem Tria.step {b at' r : Nat} {d R : List Nat} (h : Tria b d R) (ha : at' < b) (hn : at' ∉ d) (hr : r < 2 ^ b) : Tria b (d ++ [at']) (R.set at' (2 ^ at' ||| (Gf.mk d &&& r))) ∧ 2 ^ at' ||| (Gf.mk d &&& r) < 2 ^ b := by
  have hz : (Gf.mk d &&& r).testBit at' = false := by
    rw [Nat.testBit_and, mk_bit _ h.nd, decide_eq_false hn]
    rfl
  have hzb : Gf.mk d &&& r < 2 ^ b := Nat.lt_of_le_of_lt Nat.and_le_right hr
  have hv : 2 ^ at' ||| (Gf.mk d &&& r) < 2 ^ b := Nat.or_lt_two_pow (Nat.pow_lt_pow_right (by decide) ha) hzb
  have e0 : ∀ v, (d.map fun i => (R.set at' v).getD i 0) = d.map fun i => R.getD i 0 := fun v => List.map_congr_left fun i hi => by
    have : ¬ at' = i := fun e => hn (e ▸ hi)
    simp [List.getD, List.getElem?_set, this]
  have e1 : ∀ v, ((d ++ [at']).map fun i => (R.set at' v).getD i 0) = (d.map fun i => R.getD i 0) ++ [v] := fun v => by
    rw [List.map_append, e0]
    have : at' < R.length := by rw [h.len]; exact ha
    simp [List.getD, this]
  have hs : Span (d.map fun i => R.getD i 0) (Gf.mk d &&& r) := span_bits hzb fun j hj => by
    rw [Nat.testBit_and, mk_bit _ h.nd] at hj
    exact h.all j (by simpa using (Bool.and_eq_true_iff.mp hj).1)
  refine ⟨⟨by rw [List.length_set, h.len], fun x hx => ?_, ?_, fun j hj => ?_, fun j hj => ?_⟩, hv⟩
  · rcases List.mem_or_eq_of_mem_set hx with hx | rfl
    · exact h.row x hx
    · exact hv
  · exact List.nodup_append.mpr ⟨h.nd, by simp, fun x hx y hy e => by
      rw [List.mem_singleton] at hy
      subst hy; subst e
      exact hn hx⟩
  · rcases List.mem_append.mp hj with hj | hj
    · exact h.lt j hj
    · rw [List.mem_singleton.mp hj]; exact ha
  · rw [e1]
    rcases List.mem_append.mp hj with hj | hj
    · exact (h.all j hj).of_mem fun x hx => List.mem_append_left _ hx
    · rw [List.mem_singleton.mp hj]
      have h1 : Span ((d.map fun i => R.getD i 0) ++ [2 ^ at' ||| (Gf.mk d &&& r)]) (2 ^ at' ||| (Gf.mk d &&& r)) := .mem (by simp)
      have h2 := h1.xor (hs.of_mem fun x hx => List.mem_append_left _ hx)
      rw [or_xor hz, xor_d] at h2
      rw [or_xor hz]
      exact h2
theorem Tria.map {b o : Nat} {d R : List Nat} (h : Tria b d R) (hd : d.Perm (List.range b)) (ho : o < 2 ^ b) : Map b (R, o) := by
  refine ⟨h.len, h.row, ho, fun i hi => ?_⟩
  have := h.all i (hd.mem_iff.mpr (List.mem_range.mpr hi))
  refine this.of_mem fun x hx => ?_
  obtain ⟨j, hj, rfl⟩ := List.mem_map.mp hx
  have hjb : j < R.length := by rw [h.len]; exact h.lt j hj
  simp [List.getD, hjb]
end PG
namespace Gf
theorem perm_rangeG {n : Nat} {xs : List Nat} (h1 : xs.Nodup) (h2 : ∀ x ∈ xs, x < n) (h3 : xs.length = n) : xs.Perm (List.range n) := by
  refine (List.perm_ext_iff_of_nodup h1 List.nodup_range).mpr fun a => ⟨fun h => List.mem_range.mpr (h2 a h), fun h => ?_⟩
  have ha := List.mem_range.mp h
  by_cases q : a ∈ xs
  · exact q
  · have := nodup_le (n := n) (List.nodup_cons.mpr ⟨q, h1⟩) fun x hx => by
      rcases List.mem_cons.mp hx with rfl | hx
      · exact ha
      · exact h2 x hx
    rw [List.length_cons, h3] at this
    omega
section
variable {b : Nat} {m n : Mp}
theorem Map.surj (h : Map b m) {y : Nat} (hy : y < 2 ^ b) : ∃ x, x < 2 ^ b ∧ vec m.1 x = y := by
  have nd : ((List.range (2 ^ b)).map (vec m.1)).Nodup := List.pairwise_map.mpr (List.Pairwise.imp_of_mem (fun {p q} hp hq hn e => hn (by
    have : vec m.1 (p ^^^ q) = 0 := by rw [vec_xor, e, Nat.xor_self]
    exact xor_eq_zero.mp (vec_inj h (Nat.xor_lt_two_pow (List.mem_range.mp hp) (List.mem_range.mp hq)) this))) List.nodup_range)
  have hp : ((List.range (2 ^ b)).map (vec m.1)).Perm (List.range (2 ^ b)) := perm_rangeG nd (fun x hx => by
    obtain ⟨y, _, rfl⟩ := List.mem_map.mp hx
    rw [← h.len]
    exact vec_lt _ _) (by simp)
  obtain ⟨x, hx, e⟩ := List.mem_map.mp (hp.mem_iff.mpr (List.mem_range.mpr hy))
  exact ⟨x, List.mem_range.mp hx, e⟩
theorem Map.ind (h : Map b m) {p : Nat} (hp : p < 2 ^ b) (e : sel m.1 p = 0) : p = 0 := by
  refine Nat.eq_of_testBit_eq fun i => ?_
  rw [Nat.zero_testBit]
  by_cases hi : i < b
  · obtain ⟨x, _, hx⟩ := h.surj (Nat.pow_lt_pow_right (a := 2) (by decide) hi)
    have := par_sel m.1 p x
    rw [e, hx, Nat.zero_and, par_zero, par_and_pow] at this
    exact this.symm
  · exact Nat.testBit_lt_two_pow (Nat.lt_of_lt_of_le hp (Nat.pow_le_pow_right (by decide) (by omega)))
theorem Map.of_ind (len : m.1.length = b) (row : ∀ r ∈ m.1, r < 2 ^ b) (off : m.2 < 2 ^ b) (inj : ∀ p, p < 2 ^ b → sel m.1 p = 0 → p = 0) : Map b m := by
  refine Map.of_rk len row off ?_
  have nd : ((List.range (2 ^ b)).map (sel m.1)).Nodup := List.pairwise_map.mpr (List.Pairwise.imp_of_mem (fun {p q} hp hq h e => h (by
    have := inj (p ^^^ q) (Nat.xor_lt_two_pow (List.mem_range.mp hp) (List.mem_range.mp hq)) (by rw [sel_xor, e, Nat.xor_self])
    exact xor_eq_zero.mp this)) List.nodup_range)
  have : Lists m.1 ((List.range (2 ^ b)).map (sel m.1)) := by
    refine ⟨nd, fun x => ?_⟩
    rw [List.mem_map]
    constructor
    · rintro ⟨p, _, rfl⟩; exact sel_span _ _
    · intro h
      obtain ⟨p, h1, h2⟩ := span_sel h
      rw [len] at h1
      exact ⟨p, List.mem_range.mpr h1, h2⟩
  have := this.length
  rw [List.length_map, List.length_range] at this
  exact ((Nat.pow_right_inj (a := 2) (by decide)).mp this).symm
/-- n behind m -/
def behind (m n : Mp) : Mp := (n.1.map (sel m.1), app n m.2)
theorem sel_sel (rs : List Nat) : ∀ (ns : List Nat) (p : Nat), sel (ns.map (sel rs)) p = sel rs (sel ns p)
  | [], p => by simp [sel, sel_zero]
  | n :: ns, p => by
    simp only [List.map_cons, sel, sel_xor, sel_sel rs ns]
    congr 1
    split
    · rfl
    · rw [sel_zero]
theorem vec_sel (rs : List Nat) (ns : List Nat) (x : Nat) : vec (ns.map (sel rs)) x = vec ns (vec rs x) := by
  refine Nat.eq_of_testBit_eq fun i => ?_
  rw [vec_bit, vec_bit, List.getElem?_map]
  cases ns[i]? with
  | none => rfl
  | some n => exact par_sel rs n x
theorem Map.behind (h : Map b m) (k : Map b n) : Map b (behind m n) := by
  refine Map.of_ind ?_ (fun r hr => ?_) (app_lt k _) fun p hp e => ?_
  · show (n.1.map _).length = b
    rw [List.length_map, k.len]
  · obtain ⟨x, hx, rfl⟩ := List.mem_map.mp hr
    exact (sel_span _ _).bound h.row
  · have e : sel (n.1.map (sel m.1)) p = 0 := e
    rw [sel_sel] at e
    exact k.ind hp (h.ind ((sel_span _ _).bound k.row) e)
/-- a mapping is told by its ends -/
theorem app_ext (h : Map b m) (k : Map b n) (e : ∀ x, x < 2 ^ b → app m x = app n x) : m = n := by
  have e0 : m.2 = n.2 := by
    have := e 0 (Nat.two_pow_pos b)
    unfold app at this
    rwa [vec_zero, vec_zero, Nat.xor_zero, Nat.xor_zero] at this
  have e1 : ∀ x, x < 2 ^ b → vec m.1 x = vec n.1 x := fun x hx => by
    have := e x hx
    unfold app at this
    rw [e0] at this
    have := congrArg (n.2 ^^^ ·) this
    simpa only [xor_x] using this
  have e2 : m.1 = n.1 := by
    apply List.ext_getElem
    · rw [h.len, k.len]
    · intro i h1 h2
      refine Nat.eq_of_testBit_eq fun j => ?_
      by_cases hj : j < b
      · have := congrArg (·.testBit i) (e1 (2 ^ j) (Nat.pow_lt_pow_right (by decide) hj))
        simp only [vec_bit' _ h1, vec_bit' _ h2, par_and_pow] at this
        exact this
      · have q : ∀ r, r < 2 ^ b → r.testBit j = false := fun r hr => Nat.testBit_lt_two_pow (Nat.lt_of_lt_of_le hr (Nat.pow_le_pow_right (by decide) (by omega)))
        rw [q _ (h.row _ (List.getElem_mem h1)), q _ (k.row _ (List.getElem_mem h2))]
  exact Prod.ext e2 e0
end
/-- f and g lead back, on so many places -/
structure Inv (N : Nat) (f g : Nat → Nat) : Prop where
  fl : ∀ x, x < N → f x < N
  gl : ∀ x, x < N → g x < N
  gf : ∀ x, x < N → g (f x) = x
  fg : ∀ x, x < N → f (g x) = x
end Gf
namespace PG
open DN Gf
open L2 (Key)
open PySem (PyData Str)
theorem p_bits_of {n k : Nat} (hn : n < 2 ^ k) (hk : k ≤ 1000) : d_bits_of [iN n] = .ok [] (.own (.lst ((bitsN n).map iN))) := by
  have hb := blen_le hn
  have e := lc_filter (g := store 1) (t := x_bits_of_1) (f := dVar 1) (vs := [1]) (ρ := [.ln (iN n), .un]) iN (fun i => n.testBit i) iN (xs := List.range (blen n)) (fun i hi => by
    cases h : n.testBit i <;> simp [x_bits_of_1, h]) (by simp; omega)
  have e2 : (List.range (blen n)).filter (fun i => n.testBit i) = bitsN n := rfl
  rw [e2] at e
  have hb2 : blen n ≤ 1000000 := by omega
  simp [d_bits_of, b_bits_of, hb2, e]
theorem p_put_together {rs is : List Nat} (h : ∀ i ∈ is, i < rs.length) : d_put_together [.lst (rs.map iN), .lst (is.map iN)] = .ok [] (.fz (iN (is.foldl (fun a i => a ^^^ rs.getD i 0) 0))) := by
  obtain ⟨ρ', e, y, rfl⟩ := loop_l (g := store 3) (b := x_put_together_1) iN (fun d ρ => ∃ y, ρ = [.ln (.lst (rs.map iN)), .ln (.lst (is.map iN)), .fz (iN (d.foldl (fun a i => a ^^^ rs.getD i 0) 0)), y]) (xs := is) (ρ := [.ln (.lst (rs.map iN)), .ln (.lst (is.map iN)), .fz (iN 0), .un]) ⟨_, rfl⟩ (by
    rintro d i u ρ hx ⟨y, rfl⟩
    have hi := h i (by rw [hx]; simp)
    rw [List.foldl_append]
    generalize d.foldl (fun a i => a ^^^ rs.getD i 0) 0 = z
    simp [x_put_together_1, hi, List.getD])
  simp [d_put_together, b_put_together, e]
theorem bits_idx {rs : List Nat} {p : Nat} (h : p < 2 ^ rs.length) : ∀ i ∈ bitsN p, i < rs.length := fun i hi => by
  have := mem_bitsN.mp hi
  rcases Nat.lt_or_ge i rs.length with q | q
  · exact q
  · rw [Nat.testBit_lt_two_pow (two_lt h q)] at this
    cases this
/-- rows put together by a mask -/
theorem p_put_bits {rs : List Nat} {p : Nat} (h : p < 2 ^ rs.length) : d_put_together [.lst (rs.map iN), .lst ((bitsN p).map iN)] = .ok [] (.fz (iN (sel rs p))) := by
  rw [p_put_together (bits_idx h), sel_bits h]
theorem p_behind {b : Nat} {m n : Mp} (hb : b ≤ 99) (h : Map b m) (k : Map b n) : d_behind [.tup [.lst (m.1.map iN), iN m.2], .tup [.lst (n.1.map iN), iN n.2]] = .ok [] (.tp [.own (.lst ((behind m n).1.map iN)), .fz (iN (behind m n).2)]) := by
  have e := lc_map (g := store 4) (t := dYes) (f := x_behind_1) (vs := [4]) (ρ := [.fz (.tup [.lst (m.1.map iN), iN m.2]), .fz (.tup [.lst (n.1.map iN), iN n.2]), .fz (.lst (m.1.map iN)), .fz (iN m.2), .un]) iN (fun r => iN (sel m.1 r)) (xs := n.1) (fun r hr => by
    have hr2 : r < 2 ^ m.1.length := by rw [h.len]; exact k.row r hr
    have e1 := p_bits_of (k := b) (k.row r hr) (by omega)
    have e2 := p_put_bits hr2
    simp [x_behind_1, e1, e2]) (by rw [k.len]; omega)
  have e3 := p_moved (rs := n.1) (o := n.2) (x := m.2) (by rw [k.len]; omega) (fun r hr => two_lt (k.row r hr) (by omega))
  simp [d_behind, b_behind, e, e3, Gf.behind]
theorem Back.inv {b : Nat} {m n : Mp} (h : Map b m) (k : Back b m n) : Inv (2 ^ b) (app m) (app n) := ⟨fun x _ => app_lt h x, fun x _ => app_lt k.map x, k.back, k.forth⟩
end PG
namespace Gf
/-- the place of a value with the bits of S of its end and the others of its first place -/
def wk (rs : List Nat) (S x : Nat) : Nat := x ^^^ ((x ^^^ vec rs x) &&& S)
theorem wk_bit (rs : List Nat) (S x i : Nat) : (wk rs S x).testBit i = if S.testBit i = true then (vec rs x).testBit i else x.testBit i := by
  unfold wk
  rw [Nat.testBit_xor, Nat.testBit_and, Nat.testBit_xor]
  cases S.testBit i <;> cases x.testBit i <;> cases (vec rs x).testBit i <;> rfl
theorem wk_zero (rs : List Nat) (x : Nat) : wk rs 0 x = x := by unfold wk; rw [Nat.and_zero, Nat.xor_zero]
theorem wk_lt {b : Nat} {rs : List Nat} (hl : rs.length = b) (S : Nat) {x : Nat} (hx : x < 2 ^ b) : wk rs S x < 2 ^ b := by
  refine Nat.lt_pow_two_of_testBit _ fun i hi => ?_
  have h1 : x.testBit i = false := Nat.testBit_lt_two_pow (Nat.lt_of_lt_of_le hx (Nat.pow_le_pow_right (by decide) hi))
  have h2 : (vec rs x).testBit i = false := Nat.testBit_lt_two_pow (Nat.lt_of_lt_of_le (vec_lt rs x) (Nat.pow_le_pow_right (by decide) (by omega)))
  rw [wk_bit, h1, h2]
  split <;> rfl
/-- one bit more -/
theorem wk_more {rs : List Nat} {S a x : Nat} (ha : S.testBit a = false) (hl : a < rs.length) : wk rs (S ^^^ 2 ^ a) x = wk rs S x ^^^ (x.testBit a ^^ par (rs[a] &&& x)).toNat * 2 ^ a := by
  apply Nat.eq_of_testBit_eq
  intro i
  rw [Nat.testBit_xor, bit_one, wk_bit, wk_bit, Nat.testBit_xor, Nat.testBit_two_pow]
  by_cases h : a = i
  · subst h
    rw [ha, vec_bit' x hl]
    cases x.testBit a <;> cases par (rs[a] &&& x) <;> simp
  · have h' : ¬ i = a := fun e => h e.symm
    simp [h, h']
/-- the first bits, told by the present ones -/
structure Srcs (b : Nat) (rs : List Nat) (S : Nat) (src : List Nat) : Prop where
  len : src.length = b
  lt : ∀ s ∈ src, s < 2 ^ b
  inv : ∀ x, x < 2 ^ b → vec src (wk rs S x) = x
def pows (b : Nat) : List Nat := (List.range b).map fun i => 2 ^ i
theorem Srcs.init (b : Nat) (rs : List Nat) : Srcs b rs 0 (pows b) := by
  refine ⟨by unfold pows; simp, fun s hs => ?_, fun x hx => ?_⟩
  · obtain ⟨i, hi, rfl⟩ := List.mem_map.mp hs
    exact Nat.pow_lt_pow_right (by decide) (List.mem_range.mp hi)
  · rw [wk_zero]
    show vec ((List.range b).map fun i => 2 ^ i) x = x
    rw [vec_pows, Nat.mod_eq_of_lt hx]
def lmask (rs src : List Nat) (a : Nat) : Nat := sel src (rs.getD a 0)
def nsrc (src : List Nat) (a m : Nat) : List Nat := src.map fun s => if s.testBit a = true then s ^^^ m else s
theorem sel_lt {b : Nat} {rs : List Nat} (h : ∀ r ∈ rs, r < 2 ^ b) (p : Nat) : sel rs p < 2 ^ b := (sel_span rs p).bound h
section
variable {b : Nat} {rs src : List Nat} {S a : Nat}
theorem Srcs.told (h : Srcs b rs S src) (hl : a < rs.length) {x : Nat} (hx : x < 2 ^ b) : par (lmask rs src a &&& wk rs S x) = par (rs[a] &&& x) := by
  unfold lmask
  rw [par_sel, h.inv x hx]
  congr 2
  rw [List.getD_eq_getElem?_getD, List.getElem?_eq_getElem hl]
  rfl
theorem lmask_lt (h : Srcs b rs S src) : lmask rs src a < 2 ^ b := sel_lt h.lt _
theorem Srcs.step (hr : rs.length = b) (h : Srcs b rs S src) (ha : a < b) (hS : S.testBit a = false) (ht : (lmask rs src a).testBit a = true) : Srcs b rs (S ^^^ 2 ^ a) (nsrc src a (lmask rs src a ^^^ 2 ^ a)) := by
  have hm : lmask rs src a ^^^ 2 ^ a < 2 ^ b := Nat.xor_lt_two_pow (lmask_lt h) (Nat.pow_lt_pow_right (by decide) ha)
  have hm0 : (lmask rs src a ^^^ 2 ^ a).testBit a = false := by rw [Nat.testBit_xor, ht, Nat.testBit_two_pow]; simp
  refine ⟨by unfold nsrc; rw [List.length_map, h.len], fun s hs => ?_, fun x hx => ?_⟩
  · obtain ⟨t, ht, rfl⟩ := List.mem_map.mp hs
    split
    · exact Nat.xor_lt_two_pow (h.lt t ht) hm
    · exact h.lt t ht
  · have hx2 := h.inv x hx
    have hy := h.told (a := a) (by omega) hx
    rw [wk_more hS (by omega)]
    apply Nat.eq_of_testBit_eq
    intro i
    by_cases hi : i < b
    · have hi2 : i < src.length := by rw [h.len]; exact hi
      have e1 : x.testBit i = par (src[i] &&& wk rs S x) := by rw [← vec_bit' _ hi2, hx2]
      have hi3 : i < (nsrc src a (lmask rs src a ^^^ 2 ^ a)).length := by unfold nsrc; rw [List.length_map]; exact hi2
      rw [vec_bit' _ hi3, e1]
      have e2 : (nsrc src a (lmask rs src a ^^^ 2 ^ a))[i] = if src[i].testBit a = true then src[i] ^^^ (lmask rs src a ^^^ 2 ^ a) else src[i] := List.getElem_map _
      rw [e2]
      have hwa : (wk rs S x).testBit a = x.testBit a := by rw [wk_bit, hS]; simp
      generalize wk rs S x = u at *
      generalize lmask rs src a = mk at *
      have hd : ∀ (z : Nat) (c : Bool), par (z &&& c.toNat * 2 ^ a) = (z.testBit a && c) := fun z c => by
        cases c
        · simp [par_zero]
        · simp only [Bool.toNat_true, Nat.one_mul, par_and_pow]; simp
      have e3 : par (mk &&& u) = (par ((mk ^^^ 2 ^ a) &&& u) ^^ u.testBit a) := by
        have : mk = (mk ^^^ 2 ^ a) ^^^ 2 ^ a := (xor_d _ _).symm
        conv => lhs; rw [this]
        rw [par_xor_and, Nat.and_comm (2 ^ a) u, par_and_pow]
      rw [e3] at hy
      generalize mk ^^^ 2 ^ a = m at *
      split
      · rename_i hs
        rw [par_and_xor, hd, par_xor_and, Nat.testBit_xor, hs, hm0, ← hy, hwa]
        cases par (src[i] &&& u) <;> cases par (m &&& u) <;> cases x.testBit a <;> rfl
      · rename_i hs
        have hs : src[i].testBit a = false := Bool.eq_false_iff.mpr hs
        rw [par_and_xor, hd, hs]
        simp
    · have h1 : x.testBit i = false := Nat.testBit_lt_two_pow (Nat.lt_of_lt_of_le hx (Nat.pow_le_pow_right (by decide) (by omega)))
      rw [h1]
      refine Nat.testBit_lt_two_pow (Nat.lt_of_lt_of_le (vec_lt _ _) (Nat.pow_le_pow_right (by decide) ?_))
      unfold nsrc
      rw [List.length_map, h.len]
      omega
/-- values are at unlike places -/
def Sep (b : Nat) (rs : List Nat) (S : Nat) : Prop := ∀ x y, x < 2 ^ b → y < 2 ^ b → wk rs S x = wk rs S y → x = y
theorem Sep.surj (hr : rs.length = b) (h : Sep b rs S) {u : Nat} (hu : u < 2 ^ b) : ∃ x, x < 2 ^ b ∧ wk rs S x = u := by
  have p : ((List.range (2 ^ b)).map (wk rs S)).Perm (List.range (2 ^ b)) := by
    refine perm_rangeG ?_ (fun x hx => ?_) (by simp)
    · exact (List.pairwise_map).mpr (List.nodup_range.imp_of_mem fun {x y} hx hy ne e => ne (h x y (List.mem_range.mp hx) (List.mem_range.mp hy) e))
    · obtain ⟨y, hy, rfl⟩ := List.mem_map.mp hx
      exact wk_lt hr S (List.mem_range.mp hy)
  obtain ⟨x, hx, e⟩ := List.mem_map.mp (p.mem_iff.mpr (List.mem_range.mpr hu))
  exact ⟨x, List.mem_range.mp hx, e⟩
end
end Gf
namespace PG
open DN Gf
end PG
namespace DN
open L2 (kitB atI ixN Key)
open PySem (PyData Str)
/-- shown within a depth and a length -/
inductive Rk : Nat → Nat → D → Prop where
  | non : Rk 0 10 .non
  | bl {b} : Rk 0 10 (.bl b)
  | int {i : Int} {k : Nat} : i.natAbs < 2 ^ k → k ≤ 1900 → Rk 0 (k + 10) (.int i)
  | str {x k} : (PyData.shown (.str x)).length ≤ k → Rk 0 k (.str x)
  | dct : Rk 1 10 (.dct [])
  | lst {n k m ds} : (∀ d ∈ ds, Rk n k d) → ds.length ≤ m → Rk (n + 1) ((k + 2) * m + 3) (.lst ds)
  | tup {n k m ds} : (∀ d ∈ ds, Rk n k d) → ds.length ≤ m → Rk (n + 1) ((k + 2) * m + 3) (.tup ds)
  | mono {n k n' k' d} : Rk n k d → n ≤ n' → k ≤ k' → Rk n' k' d
structure RkP (n k : Nat) (p : PyData) : Prop where
  sh : p.showable = true
  dp : p.depth ≤ n
  ln : p.shown.length ≤ k
theorem RkP.all {n k : Nat} : ∀ {ds : List D}, (∀ d ∈ ds, ∃ p, pyR d = some p ∧ RkP n k p) → ∃ ps, pysR ds = some ps ∧ PyData.showableAll ps = true ∧ PyData.depthAll ps ≤ n ∧ ((PyData.shownAll ps).map (·.length)).sum ≤ k * ds.length ∧ (PyData.shownAll ps).length = ds.length
  | [], _ => ⟨[], rfl, rfl, Nat.zero_le _, Nat.le_refl _, rfl⟩
  | d :: ds, h => by
    obtain ⟨p, e, q⟩ := h d List.mem_cons_self
    obtain ⟨ps, e2, h1, h2, h3, h4⟩ := RkP.all (ds := ds) fun x hx => h x (List.mem_cons_of_mem _ hx)
    refine ⟨p :: ps, by rw [pysR, e, e2], ?_, ?_, ?_, ?_⟩
    · rw [PyData.showableAll, q.sh, h1]; rfl
    · rw [PyData.depthAll]; exact Nat.max_le.mpr ⟨q.dp, h2⟩
    · have := q.ln
      simp only [PyData.shownAll, List.map_cons, List.sum_cons, List.length_cons, Nat.mul_succ]
      omega
    · simp [PyData.shownAll, h4]
theorem Rk.ok {n k : Nat} {d : D} (h : Rk n k d) : ∃ p, pyR d = some p ∧ RkP n k p := by
  induction h with
  | non => exact ⟨_, rfl, rfl, Nat.le_refl _, by decide⟩
  | @bl b => exact ⟨_, rfl, rfl, Nat.le_refl _, by cases b <;> decide⟩
  | @int i k h1 h2 =>
    have hx : i.natAbs.log2 < k + 1 := by
      by_cases h0 : i.natAbs = 0
      · rw [h0]
        show Nat.log2 0 < _
        rw [Nat.log2_zero]
        omega
      · exact Nat.lt_succ_of_lt ((Nat.log2_lt h0).mpr h1)
    refine ⟨_, rfl, decide_eq_true (by omega), Nat.le_refl _, ?_⟩
    have := PySem.int_text_length_le (a := i) (k := k + 1) (by omega) hx
    rw [PyData.shown]
    show (Str.ofString (toString i)).length ≤ _
    rw [PySem.ofString_length]
    omega
  | str h => exact ⟨_, rfl, rfl, Nat.le_refl _, h⟩
  | dct => exact ⟨.dict [], rfl, by decide +kernel, by decide +kernel, by decide +kernel⟩
  | @lst n k m ds h hm ih =>
    obtain ⟨ps, e, h1, h2, h3, h4⟩ := RkP.all ih
    have := PySem.listText_len_le (PyData.shownAll ps)
    have h5 : (k + 2) * ds.length ≤ (k + 2) * m := Nat.mul_le_mul_left _ hm
    have h6 : (k + 2) * ds.length = k * ds.length + 2 * ds.length := Nat.add_mul _ _ _
    refine ⟨.list ps, by rw [pyR, e]; rfl, by rw [PyData.showable]; exact h1, by rw [PyData.depth]; omega, ?_⟩
    rw [PyData.shown]
    omega
  | @tup n k m ds h hm ih =>
    obtain ⟨ps, e, h1, h2, h3, h4⟩ := RkP.all ih
    have := PySem.tupleText_len_le (PyData.shownAll ps)
    have h5 : (k + 2) * ds.length ≤ (k + 2) * m := Nat.mul_le_mul_left _ hm
    have h6 : (k + 2) * ds.length = k * ds.length + 2 * ds.length := Nat.add_mul _ _ _
    refine ⟨.tuple ps, by rw [pyR, e]; rfl, by rw [PyData.showable]; exact h1, by rw [PyData.depth]; omega, ?_⟩
    rw [PyData.shown]
    omega
  | mono h h1 h2 ih =>
    obtain ⟨p, e, q⟩ := ih
    exact ⟨p, e, q.sh, Nat.le_trans q.dp h1, Nat.le_trans q.ln h2⟩
/-- the text -/
def rT (d : D) : Str := match pyR d with
  | some p => p.shown
  | none => ⟨#[]⟩
theorem Rk.repr {n k : Nat} {d : D} (h : Rk n k d) (hn : n ≤ 64 := by decide) (hk : k ≤ 1000000 := by decide) : gRepr [d] = some (.fz (.str (rT d))) := by
  obtain ⟨p, e, q⟩ := h.ok
  have e2 : reprOk p = true := and_t q.sh (and_t (decide_eq_true (Nat.le_trans q.dp hn)) (decide_eq_true (Nat.le_trans q.ln hk)))
  show (pyR d).bind _ = _
  unfold rT
  rw [e, Option.bind_some, if_pos e2]
theorem Rk.nat {x k : Nat} (h : x < 2 ^ k) (hk : k ≤ 1900 := by decide) : Rk 0 (k + 10) (iN x) := .int (by rw [Int.natAbs_natCast]; exact h) hk
theorem Rk.lstM {α : Type} {n k m : Nat} {f : α → D} {xs : List α} (h : ∀ x ∈ xs, Rk n k (f x)) (hm : xs.length ≤ m) : Rk (n + 1) ((k + 2) * m + 3) (.lst (xs.map f)) :=
  .lst (fun d hd => by
    obtain ⟨x, hx, rfl⟩ := List.mem_map.mp hd
    exact h x hx) (by rw [List.length_map]; exact hm)
theorem Rk.nats {k m : Nat} {xs : List Nat} (h : ∀ x ∈ xs, x < 2 ^ k) (hm : xs.length ≤ m) (hk : k ≤ 1900 := by decide) : Rk 1 ((k + 12) * m + 3) (.lst (xs.map iN)) :=
  .lstM (n := 0) (k := k + 10) (fun x hx => .nat (h x hx) hk) hm
theorem eqD_bl (a b : Bool) : eqD (.bl a) (.bl b) = some (decide (a = b)) := by cases a <;> cases b <;> decide +kernel
@[simp] theorem gEq2_bl (a b : Bool) : gEq2 (.bl a) (.bl b) = some (.fz (.bl (decide (a = b)))) := gEq2_of (eqD_bl a b) rfl
@[simp] theorem gNe2_bl (a b : Bool) : gNe2 (.bl a) (.bl b) = some (.fz (.bl (!decide (a = b)))) := gNe2_of (eqD_bl a b) rfl
theorem shaped_enc {α : Type} [Enc α] (hd : Enc.dep α ≤ 64) (x : α) : PySem.SeqAt.shaped (Enc.pyo x) = true := by
  unfold PySem.SeqAt.shaped
  rw [Enc.h_lay, Bool.true_and, decide_eq_true_eq]
  exact Nat.le_trans (Enc.h_dep x) hd
theorem eqD_non_lst {α : Type} [Enc α] (hd : Enc.dep (List α) ≤ 64) (xs : List α) : eqD .non (.lst (xs.map Enc.enc)) = some false ∧ eqD (.lst (xs.map Enc.enc)) .non = some false := by
  have e : py (.lst (xs.map Enc.enc)) = some (Enc.pyo xs) := Enc.h_py (α := List α) xs
  have s := shaped_enc (α := List α) hd xs
  have s0 : PySem.SeqAt.shaped .none = true := by decide +kernel
  have p0 : py .non = some .none := rfl
  unfold eqD
  rw [e, p0]
  simp only [s, s0, Bool.and_self, if_true]
  exact ⟨congrArg some (by show PyData.eqv .none (.list _) = false; rw [PyData.eqv]), congrArg some (by show PyData.eqv (.list _) .none = false; rw [PyData.eqv])⟩
theorem gNeS_non (y : D) : gNeS .non y = none := by cases y <;> rfl
theorem gEqS_non (y : D) : gEqS .non y = none := by cases y <;> rfl
@[simp] theorem gNe2_non_tris (xs : List Tri) : gNe2 .non (.lst (xs.map tri)) = some (.fz (.bl true)) := gNe2_of (eqD_non_lst (α := Tri) (by decide) xs).1 (gNeS_non _)
@[simp] theorem gEq2_non_tris (xs : List Tri) : gEq2 .non (.lst (xs.map tri)) = some (.fz (.bl false)) := gEq2_of (eqD_non_lst (α := Tri) (by decide) xs).1 (gEqS_non _)
end DN
namespace PG
open DN Gf
open L2 (Key)
open PySem (PyData Str)
/-- a mapping as a value -/
abbrev mD (m : Mp) : D := .tup [.lst (m.1.map iN), iN m.2]
def oN : Option Nat → D
  | none => .non
  | some n => iN n
end PG
namespace PG
open DN Gf
open L2 (Key)
open PySem (PyData Str)
end PG
namespace PG
open DN Gf
open L2 (Key)
open PySem (PyData Str)
def dd (ns : List Int) : List Int := ns.foldl PyProof.Rows.step_dedup []
theorem sum_pows {b : Nat} : ∀ {is : List Nat}, is.Nodup → (∀ i ∈ is, i < b) → (is.map fun i => 2 ^ i).sum = mk is
  | [], _, _ => rfl
  | i :: is, nd, h => by
    have ih := sum_pows (b := b) (List.nodup_cons.mp nd).2 fun j hj => h j (List.mem_cons_of_mem _ hj)
    rw [List.map_cons, List.sum_cons, ih, mk_cons]
    have h0 : (mk is).testBit i = false := by
      rw [mk_bit i (List.nodup_cons.mp nd).2]
      exact decide_eq_false (List.nodup_cons.mp nd).1
    have q := xor_add (2 ^ i) (mk is)
    have : 2 ^ i &&& mk is = 0 := by rw [Nat.and_comm, and_pow, h0]; simp
    rw [this] at q
    omega
theorem mk_lt {b : Nat} {is : List Nat} (nd : is.Nodup) (h : ∀ i ∈ is, i < b) : mk is < 2 ^ b := by
  refine Nat.lt_pow_two_of_testBit _ fun i hi => ?_
  rw [mk_bit i nd]
  exact decide_eq_false fun hm => by have := h i hm; omega
/-- the place of a value with some bits of its end -/
def wkA (m : Mp) (S x : Nat) : Nat := (app m x &&& S) ||| andN x S
end PG
namespace PG
open DN Gf
end PG
namespace PG
open DN Gf
open Classical in
/-- the columns of rows -/
def colsOf (b : Nat) (rs : List Nat) : List Nat := (List.range b).map fun i => vec rs (2 ^ i)
theorem colsOf_len (b : Nat) (rs : List Nat) : (colsOf b rs).length = b := by unfold colsOf; simp
theorem colsOf_lt {b : Nat} {rs : List Nat} (hl : rs.length = b) : ∀ r ∈ colsOf b rs, r < 2 ^ b := fun r hr => by
  obtain ⟨i, _, rfl⟩ := List.mem_map.mp hr
  have := vec_lt rs (2 ^ i)
  rwa [hl] at this
theorem colsOf_get {b : Nat} {rs : List Nat} {i : Nat} (hi : i < (colsOf b rs).length) : (colsOf b rs)[i] = vec rs (2 ^ i) := by
  have e : (colsOf b rs)[i]? = some (vec rs (2 ^ i)) := by
    have : i < b := by rw [colsOf_len] at hi; exact hi
    simp [colsOf, this]
  rw [List.getElem?_eq_getElem hi] at e
  exact Option.some.inj e
theorem vec_colsOf {b : Nat} {rs : List Nat} (hr : ∀ r ∈ rs, r < 2 ^ b) (x : Nat) : vec (colsOf b rs) x = sel rs x := by
  apply Nat.eq_of_testBit_eq
  intro i
  by_cases hi : i < b
  · have e : (sel rs x).testBit i = par (x &&& vec rs (2 ^ i)) := by rw [← par_sel, par_and_pow]
    have hi2 : i < (colsOf b rs).length := by rw [colsOf_len]; exact hi
    rw [vec_bit' _ hi2, e, colsOf_get, Nat.and_comm]
  · rw [Nat.testBit_lt_two_pow (Nat.lt_of_lt_of_le (vec_lt _ _) (Nat.pow_le_pow_right (by decide) (by rw [colsOf_len]; omega))), Nat.testBit_lt_two_pow (Nat.lt_of_lt_of_le (sel_lt hr x) (Nat.pow_le_pow_right (by decide) (by omega)))]
theorem sel_colsOf {b : Nat} {rs : List Nat} (hl : rs.length = b) (hr : ∀ r ∈ rs, r < 2 ^ b) (x : Nat) (hx : x < 2 ^ b) : sel (colsOf b rs) x = vec rs x := by
  apply Nat.eq_of_testBit_eq
  intro i
  have e : (sel (colsOf b rs) x).testBit i = par (x &&& vec (colsOf b rs) (2 ^ i)) := by rw [← par_sel, par_and_pow]
  rw [e]
  by_cases hi : i < b
  · rw [vec_colsOf hr, sel_pow rs i (by omega), vec_bit' x (by omega), Nat.and_comm]
  · have h0 : vec (colsOf b rs) (2 ^ i) = 0 := by
      apply Nat.eq_of_testBit_eq
      intro j
      rw [Nat.zero_testBit]
      by_cases hj : j < b
      · have hj2 : j < (colsOf b rs).length := by rw [colsOf_len]; exact hj
        rw [vec_bit' _ hj2, par_and_pow]
        exact Nat.testBit_lt_two_pow (Nat.lt_of_lt_of_le (colsOf_lt hl _ (List.getElem_mem hj2)) (Nat.pow_le_pow_right (by decide) (by omega)))
      · exact Nat.testBit_lt_two_pow (Nat.lt_of_lt_of_le (vec_lt _ _) (Nat.pow_le_pow_right (by decide) (by rw [colsOf_len]; omega)))
    rw [h0, Nat.and_zero, par_zero, Nat.testBit_lt_two_pow (Nat.lt_of_lt_of_le (vec_lt _ _) (Nat.pow_le_pow_right (by decide) (by omega)))]
/-- columns of an invertible mapping -/
structure Ind (b : Nat) (c : List Nat) : Prop where
  len : c.length = b
  lt : ∀ r ∈ c, r < 2 ^ b
  ind : ∀ x, x < 2 ^ b → sel c x = 0 → x = 0
theorem Map.cols {b : Nat} {m : Mp} (h : Map b m) : Ind b (colsOf b m.1) := ⟨colsOf_len _ _, colsOf_lt h.len, fun x hx e => vec_inj h hx (by rw [← sel_colsOf h.len h.row x hx, e])⟩
def span (L : List Nat) (x : Nat) : Prop := Span L x
/-- the columns ahead, cut down -/
def ahead (c d : List Nat) (T : Nat) : List Nat := d.map fun o => c.getD o 0 &&& T
theorem snocI {α : Type} {P : List α → Prop} (h0 : P []) (h1 : ∀ xs x, P xs → P (xs ++ [x])) : ∀ xs, P xs := fun xs => by
  have : ∀ ys : List α, P ys.reverse := by
    intro ys
    induction ys with
    | nil => exact h0
    | cons y ys ih => rw [List.reverse_cons]; exact h1 _ _ ih
  rw [← List.reverse_reverse xs]
  exact this _
theorem span_bit0 {t : Nat} : ∀ {L : List Nat} {x : Nat}, (∀ q ∈ L, q.testBit t = false) → Span L x → x.testBit t = false
  | [], x, _, h => by cases h; exact Nat.zero_testBit t
  | p :: r, x, q, h => by
    have q' := fun k hk => q k (List.mem_cons_of_mem _ hk)
    cases h with
    | out h => exact span_bit0 q' h
    | inn h => rw [Nat.testBit_xor, q p List.mem_cons_self, span_bit0 q' h]; rfl
theorem len_sub : ∀ {S T : List Nat}, S.Nodup → (∀ x ∈ S, x ∈ T) → S.length ≤ T.length
  | [], T, _, _ => Nat.zero_le _
  | x :: S, T, nd, h => by
    obtain ⟨n1, n2⟩ := List.nodup_cons.mp nd
    have hx := h x List.mem_cons_self
    have := len_sub (S := S) (T := T.erase x) n2 fun y hy => (List.mem_erase_of_ne (fun e => n1 (by rw [← e]; exact hy))).mpr (h y (List.mem_cons_of_mem _ hy))
    rw [List.length_erase_of_mem hx] at this
    have := List.length_pos_of_mem hx
    simp
    omega
theorem Ind.surj {b : Nat} {c : List Nat} (h : Ind b c) {y : Nat} (hy : y < 2 ^ b) : ∃ x, x < 2 ^ b ∧ sel c x = y := by
  have p : ((List.range (2 ^ b)).map (sel c)).Perm (List.range (2 ^ b)) := by
    refine perm_rangeG ?_ (fun x hx => ?_) (by simp)
    · refine List.pairwise_map.mpr (List.nodup_range.imp_of_mem fun {x y} hx hy ne e => ne ?_)
      have := h.ind (x ^^^ y) (Nat.xor_lt_two_pow (List.mem_range.mp hx) (List.mem_range.mp hy)) (by rw [sel_xor, e, Nat.xor_self])
      exact xor_eq_zero.mp this
    · obtain ⟨y, hy, rfl⟩ := List.mem_map.mp hx
      exact List.mem_range.mpr (sel_lt h.lt y) |> List.mem_range.mp
  obtain ⟨x, hx, e⟩ := List.mem_map.mp (p.mem_iff.mpr (List.mem_range.mpr hy))
  exact ⟨x, List.mem_range.mp hx, e⟩
end PG
namespace PG
open DN Gf
open L2 (Key)
open PySem (PyData Str)
theorem p_mask_of {b : Nat} {is : List Nat} (hb : b ≤ 999) (nd : is.Nodup) (hi : ∀ i ∈ is, i < b) : d_mask_of [.lst (is.map iN)] = .ok [] (.fz (iN (mk is))) := by
  have hl : is.length ≤ b := Gf.nodup_le nd hi
  have e := lc_map (g := store 1) (t := dYes) (f := x_mask_of_1) (vs := [1]) (ρ := [.ln (.lst (is.map iN)), .un]) iN (fun i => iN (2 ^ i)) (xs := is) (fun i hm => by
    have := hi i hm
    have h1 : i ≤ 100000 := by omega
    simp [x_mask_of_1, h1]) (by omega)
  have e1 : (is.map fun i => iN (2 ^ i)) = (is.map fun i => 2 ^ i).map iN := by rw [List.map_map]; rfl
  rw [e1] at e
  have e2 := gSum_N (is.map fun i => 2 ^ i)
  rw [sum_pows nd hi] at e2
  generalize (is.map fun i => 2 ^ i).map iN = L at *
  simp [d_mask_of, b_mask_of, e, e2]
/-- the indices of the rows that have a bit -/
def withBit (rs : List Nat) (a : Nat) : List Nat := (rs.zipIdx.filter fun q => q.1.testBit a).map (·.2)
theorem withBit_nd (rs : List Nat) (a : Nat) : (withBit rs a).Nodup := by
  unfold withBit
  refine List.Nodup.sublist (List.Sublist.map _ List.filter_sublist) ?_
  have : rs.zipIdx.map (·.2) = List.range' 0 rs.length := List.zipIdx_map_snd 0 rs
  rw [this]
  exact List.nodup_range'
theorem mem_withBit {rs : List Nat} {a i : Nat} : i ∈ withBit rs a ↔ ∃ r, rs[i]? = some r ∧ r.testBit a = true := by
  unfold withBit
  rw [List.mem_map]
  constructor
  · rintro ⟨q, hq, rfl⟩
    obtain ⟨h1, h2⟩ := List.mem_filter.mp hq
    exact ⟨q.1, List.mem_zipIdx_iff_getElem?.mp h1, h2⟩
  · rintro ⟨r, h1, h2⟩
    exact ⟨(r, i), List.mem_filter.mpr ⟨List.mem_zipIdx_iff_getElem?.mpr h1, h2⟩, rfl⟩
theorem mk_withBit (rs : List Nat) (a : Nat) : mk (withBit rs a) = vec rs (2 ^ a) := by
  apply Nat.eq_of_testBit_eq
  intro i
  rw [mk_bit i (withBit_nd rs a), vec_bit]
  cases h : rs[i]? with
  | none =>
    exact decide_eq_false fun q => by
      obtain ⟨r, e, _⟩ := mem_withBit.mp q
      rw [h] at e
      cases e
  | some r =>
    show _ = par (r &&& 2 ^ a)
    rw [par_and_pow, Bool.eq_iff_iff, decide_eq_true_eq, mem_withBit]
    exact ⟨fun ⟨s, e, q⟩ => by rw [h] at e; cases e; exact q, fun q => ⟨r, h, q⟩⟩
theorem p_columns_of {b : Nat} {rs : List Nat} (hb : b ≤ 99) (hl : rs.length = b) : d_columns_of [.lst (rs.map iN)] = .ok [] (.own (.lst ((colsOf b rs).map iN))) := by
  have e := lc_map (g := store 1) (t := dYes) (f := x_columns_of_2) (vs := [1]) (ρ := [.ln (.lst (rs.map iN)), .un, .un, .un]) iN (fun a => iN (vec rs (2 ^ a))) (xs := List.range b) (fun a ha => by
    have ha := List.mem_range.mp ha
    have e1 := lc_enum (g := storeN [2, 3]) (t := x_columns_of_1) (f := dVar 2) (vs := [2, 3]) (ρ := [.ln (.lst (rs.map iN)), .fz (iN a), .un, .un]) iN (fun _ r => r.testBit a) (fun i _ => iN i) (xs := rs) (fun i r hi => by
      cases h : r.testBit a <;> simp [x_columns_of_1, h]) (by omega)
    have e2 : ((rs.zipIdx.filter fun q => q.1.testBit a).map fun q => iN q.2) = (withBit rs a).map iN := by unfold withBit; rw [List.map_map]; rfl
    rw [e2] at e1
    have e3 := p_mask_of (b := b) (is := withBit rs a) (by omega) (withBit_nd rs a) fun i hi => by
      obtain ⟨r, e, _⟩ := mem_withBit.mp hi
      have := (List.getElem?_eq_some_iff.mp e).1
      omega
    rw [mk_withBit] at e3
    generalize vec rs (2 ^ a) = v at *
    generalize (withBit rs a).map iN = W at *
    simp [x_columns_of_2, e1, e3]) (by simp; omega)
  have e1 : ((List.range b).map fun a => iN (vec rs (2 ^ a))) = (colsOf b rs).map iN := by unfold colsOf; rw [List.map_map]; rfl
  rw [e1] at e
  have hb2 : b ≤ 1000000 := by omega
  generalize colsOf b rs = C at *
  simp [d_columns_of, b_columns_of, hl, hb2, e]
end PG
namespace PG
open DN Gf
open L2 (Key)
open PySem (PyData Str)
theorem Rk.map {b : Nat} {m : Mp} (hb : b ≤ 60) (h : Map b m) : Rk 2 10000 (mD m) :=
  .mono (.tup (n := 1) (k := 4500) (m := 2) (fun d hd => by
    simp at hd
    rcases hd with rfl | rfl
    · exact .mono (Rk.nats (k := 60) (m := 60) (fun x hx => two_lt (h.row x hx) hb) (by rw [h.len]; exact hb)) (by decide) (by decide)
    · exact .mono (.nat (two_lt h.off hb) (by decide)) (by decide) (by decide)) (by simp)) (by decide) (by decide)
theorem Rk.two {n k : Nat} {d e : D} (h : Rk n k d) (h2 : Rk n k e) : Rk (n + 1) ((k + 2) * 2 + 3) (.lst [d, e]) :=
  .lst (fun x hx => by
    simp at hx
    rcases hx with rfl | rfl
    · exact h
    · exact h2) (by simp)
end PG
namespace PG
open DN Gf
open L2 (Key)
open PySem (PyData Str)
end PG
namespace PG
open DN Gf
open L2 (Key)
open PySem (PyData Str)
@[simp] theorem finPart_m1 (ρ : Env) : finPart ρ (some (ngD 1)) = .ok ρ (some (-1)) := nr rfl
end PG
namespace DN
open L2 (kitB atI ixN Key)
open PySem (PyData Str)
theorem inD_enc {α : Type} [Enc α] [DecidableEq α] (hd : Enc.dep (List α) ≤ 64) (hd1 : Enc.dep α ≤ 64) (x : α) (xs : List α) : inD (Enc.enc x) (.lst (xs.map Enc.enc)) = some (decide (x ∈ xs)) := by
  have s := shaped_enc (α := List α) hd xs
  have s : PySem.SeqAt.shaped (.list (xs.map Enc.pyo)) = true := s
  show inDeep _ _ = _
  unfold inDeep
  rw [Enc.h_py, pys_enc]
  simp only [shaped_enc hd1, s, Bool.and_self, if_true, Option.some.injEq]
  rw [Bool.eq_iff_iff, List.any_eq_true, decide_eq_true_eq]
  constructor
  · rintro ⟨z, hz, e⟩
    obtain ⟨y, hy, rfl⟩ := List.mem_map.mp hz
    rw [Enc.h_eqv] at e
    rw [← e]
    exact hy
  · exact fun h => ⟨Enc.pyo x, List.mem_map.mpr ⟨x, h, rfl⟩, (Enc.h_eqv x x).mpr rfl⟩
theorem gIn_Ns (x : Nat) (xs : List Nat) : gIn (iN x) (.lst (xs.map iN)) = some (.fz (.bl (decide (x ∈ xs)))) := by
  unfold gIn
  rw [show inD (iN x) (.lst (xs.map iN)) = some (decide (x ∈ xs)) from inD_enc (α := Nat) (by decide) (by decide) x xs]
  rfl
end DN
namespace PG
open DN Gf
open L2 (Key)
open PySem (PyData Str)
end PG
namespace PG
open DN Gf
open L2 (Key)
open PySem (PyData Str)
def xs1 (ps ns : List Nat) : Nat := ns.foldl (fun a i => a ^^^ ps.getD i 0) 0
def ascB (ns : List Nat) : Bool := ((ns.zip (ns.drop 1)).map fun p => decide (p.1 < p.2)).all id
def clB (ps : List (Nat × Nat)) (ns : List Nat) : Bool := ascB ns && (decide (ns.length % 2 = 0) && (decide (xs1 (ps.map (·.1)) ns = 0) != decide (xs1 (ps.map (·.2)) ns = 0)))
/-- ways -/
def Ways (b : Nat) (ps : List (Nat × Nat)) : Prop := ∀ p ∈ ps, p.1 < 2 ^ b ∧ p.2 < 2 ^ b
theorem p_is_way {b : Nat} {p : Nat × Nat} (hb : b ≤ 99) (h : p.1 < 2 ^ b ∧ p.2 < 2 ^ b) : d_is_way [iN b, tN p] = .ok [] (.fz (.bl true)) := by
  have e1 := p_is_place (m := p.1) hb
  have e2 := p_is_place (m := p.2) hb
  simp [d_is_way, b_is_way, tN, e1, e2, h.1, h.2]
theorem p_need_ways {b : Nat} {ps : List (Nat × Nat)} (hb : b ≤ 99) (hl : ps.length ≤ 100) (h : Ways b ps) : d_need_ways [iN b, .lst (ps.map tN)] = .ok [] (.fz .non) := by
  obtain ⟨ρ', e, x2, x3, rfl⟩ := loop_e (g := storeN [2, 3]) (b := x_need_ways_1) tN (fun d ρ => ∃ x2 x3, ρ = [.ln (iN b), .ln (.lst (ps.map tN)), x2, x3]) (xs := ps) (ρ := [.ln (iN b), .ln (.lst (ps.map tN)), .un, .un]) ⟨_, _, rfl⟩ (by
    rintro d p t ρ hx ⟨x2, x3, rfl⟩
    have e1 := p_is_way hb (h p (by rw [hx]; simp))
    simp [x_need_ways_1, e1])
  have hl2 : ¬ 100 < (ps.map tN).length := by rw [List.length_map]; omega
  generalize hA : ps.map tN = A at *
  simp [d_need_ways, b_need_ways, e, hl2]
theorem p_need_both_k52 {b : Nat} {ps : List (Nat × Nat)} (h1 : 1 ≤ b) (hb : b ≤ 60) (hl : ps.length ≤ 100) (h : Ways b ps) : d_need_both_k52 [iN b, .lst (ps.map tN)] = .ok [] (.fz .non) := by
  simp [d_need_both_k52, b_need_both_k52, p_need_bits h1 hb, p_need_ways (by omega) hl h]
theorem p_marked {b : Nat} {xs : List Nat} (hb : b ≤ 99) (hl : xs.length ≤ 1000) : d_marked [iN b, .lst (xs.map iN)] = .ok [] (.own (.lst ((xs.map fun x => x ||| 2 ^ b).map iN))) := by
  have hb2 : b ≤ 100000 := by omega
  have e := lc_map (g := store 2) (t := dYes) (f := x_marked_1) (vs := [2]) (ρ := [.ln (iN b), .ln (.lst (xs.map iN)), .un]) iN (fun x => iN (x ||| 2 ^ b)) (xs := xs) (fun x hx => by
    simp [x_marked_1, hb2]) (by omega)
  rw [List.map_map]
  have e2 : (iN ∘ fun x => x ||| 2 ^ b) = fun x => iN (x ||| 2 ^ b) := rfl
  rw [e2]
  simp [d_marked, b_marked, e]
theorem p_begins_of {b : Nat} {ps : List (Nat × Nat)} (hb : b ≤ 99) (hl : ps.length ≤ 100) : d_begins_of [iN b, .lst (ps.map tN)] = .ok [] (.own (.lst (((ps.map (·.1)).map fun x => x ||| 2 ^ b).map iN))) := by
  have e := lc_map (g := storeN [2, 3]) (t := dYes) (f := dVar 2) (vs := [2, 3]) (ρ := [.ln (iN b), .ln (.lst (ps.map tN)), .un, .un]) tN (fun x => iN x.1) (xs := ps) (fun x hx => by
    simp [tN]) (by omega)
  have e1 := p_marked (b := b) (xs := ps.map (·.1)) hb (by rw [List.length_map]; omega)
  rw [List.map_map] at e1
  have e2 : (iN ∘ fun x : Nat × Nat => x.1) = fun x => iN x.1 := rfl
  rw [e2] at e1
  generalize hA : ps.map tN = A at *
  generalize hB : (ps.map fun x => iN x.1) = B at *
  generalize hC : ((ps.map (·.1)).map fun x => x ||| 2 ^ b).map iN = C at *
  simp [d_begins_of, b_begins_of, e, e1]
theorem p_ends_of {b : Nat} {ps : List (Nat × Nat)} (hb : b ≤ 99) (hl : ps.length ≤ 100) : d_ends_of [iN b, .lst (ps.map tN)] = .ok [] (.own (.lst (((ps.map (·.2)).map fun x => x ||| 2 ^ b).map iN))) := by
  have e := lc_map (g := storeN [2, 3]) (t := dYes) (f := dVar 3) (vs := [2, 3]) (ρ := [.ln (iN b), .ln (.lst (ps.map tN)), .un, .un]) tN (fun x => iN x.2) (xs := ps) (fun x hx => by
    simp [tN]) (by omega)
  have e1 := p_marked (b := b) (xs := ps.map (·.2)) hb (by rw [List.length_map]; omega)
  rw [List.map_map] at e1
  have e2 : (iN ∘ fun x : Nat × Nat => x.2) = fun x => iN x.2 := rfl
  rw [e2] at e1
  generalize hA : ps.map tN = A at *
  generalize hB : (ps.map fun x => iN x.2) = B at *
  generalize hC : ((ps.map (·.2)).map fun x => x ||| 2 ^ b).map iN = C at *
  simp [d_ends_of, b_ends_of, e, e1]
theorem or_mark {b x : Nat} (h : x < 2 ^ b) : x ||| 2 ^ b = x ^^^ 2 ^ b := by
  apply Nat.eq_of_testBit_eq
  intro i
  rw [Nat.testBit_or, Nat.testBit_xor, Nat.testBit_two_pow]
  by_cases hi : b = i
  · subst hi
    rw [Nat.testBit_lt_two_pow h]
    simp
  · simp [hi]
theorem mark_go {b : Nat} {xs : List Nat} (hx : ∀ x ∈ xs, x < 2 ^ b) : ∀ (ns : List Nat) (a : Nat), (∀ i ∈ ns, i < xs.length) →
    ns.foldl (fun a i => a ^^^ (xs.map fun x => x ||| 2 ^ b).getD i 0) a = ns.foldl (fun a i => a ^^^ xs.getD i 0) a ^^^ (if ns.length % 2 = 1 then 2 ^ b else 0)
  | [], a, _ => by simp
  | i :: ns, a, h => by
    have hi := h i List.mem_cons_self
    rw [List.foldl_cons, List.foldl_cons, mark_go hx ns _ fun j hj => h j (List.mem_cons_of_mem _ hj)]
    have e1 : (xs.map fun x => x ||| 2 ^ b).getD i 0 = xs.getD i 0 ^^^ 2 ^ b := by
      simp [List.getD, hi]
      exact or_mark (hx _ (List.getElem_mem hi))
    rw [e1]
    have e2 : ∀ (c : Nat) (ns : List Nat) (a : Nat), ns.foldl (fun a i => a ^^^ xs.getD i 0) (a ^^^ c) = ns.foldl (fun a i => a ^^^ xs.getD i 0) a ^^^ c := by
      intro c ns
      induction ns with
      | nil => intro a; rfl
      | cons j ns ih =>
        intro a
        rw [List.foldl_cons, List.foldl_cons, ← ih]
        congr 1
        rw [Nat.xor_assoc, Nat.xor_comm c, ← Nat.xor_assoc]
    rw [← Nat.xor_assoc, e2, Nat.xor_assoc]
    congr 1
    rw [List.length_cons]
    by_cases q : ns.length % 2 = 1
    · have q2 : ¬ (ns.length + 1) % 2 = 1 := by omega
      rw [if_pos q, if_neg q2, Nat.xor_self]
    · have q2 : (ns.length + 1) % 2 = 1 := by omega
      rw [if_neg q, if_pos q2, Nat.xor_zero]
theorem mark_xs {b : Nat} {xs ns : List Nat} (hx : ∀ x ∈ xs, x < 2 ^ b) (h : ∀ i ∈ ns, i < xs.length) : xs1 (xs.map fun x => x ||| 2 ^ b) ns = xs1 xs ns ^^^ (if ns.length % 2 = 1 then 2 ^ b else 0) := mark_go hx ns 0 h
theorem xs1_lt {b : Nat} {xs ns : List Nat} (hx : ∀ x ∈ xs, x < 2 ^ b) (h : ∀ i ∈ ns, i < xs.length) : xs1 xs ns < 2 ^ b := by
  have e : xs1 xs ns = sel xs (mk ns) := (sel_mk h).symm
  rw [e]
  exact sel_lt hx _
theorem ways_l {b : Nat} {ps : List (Nat × Nat)} (h : Ways b ps) : ∀ x ∈ ps.map (·.1), x < 2 ^ b := fun x hx => by
  obtain ⟨p, hp, rfl⟩ := List.mem_map.mp hx
  exact (h p hp).1
theorem ways_r {b : Nat} {ps : List (Nat × Nat)} (h : Ways b ps) : ∀ x ∈ ps.map (·.2), x < 2 ^ b := fun x hx => by
  obtain ⟨p, hp, rfl⟩ := List.mem_map.mp hx
  exact (h p hp).2
theorem asc_iff {ns : List Nat} : ascB ns = true ↔ ∀ k, k + 1 < ns.length → ns.getD k 0 < ns.getD (k + 1) 0 := by
  unfold ascB
  rw [List.all_eq_true]
  constructor
  · intro h k hk
    have hm : (ns[k], ns[k + 1]) ∈ ns.zip (ns.drop 1) := by
      refine List.mem_iff_getElem.mpr ⟨k, by rw [List.length_zip, List.length_drop]; omega, ?_⟩
      rw [List.getElem_zip, List.getElem_drop]
      congr 2
      omega
    have := h _ (List.mem_map.mpr ⟨_, hm, rfl⟩)
    simp only [id, decide_eq_true_eq] at this
    simpa [List.getD, show k < ns.length by omega, hk] using this
  · intro h x hx
    obtain ⟨p, hp, rfl⟩ := List.mem_map.mp hx
    obtain ⟨k, hk, e⟩ := List.mem_iff_getElem.mp hp
    rw [List.length_zip, List.length_drop] at hk
    rw [List.getElem_zip, List.getElem_drop] at e
    have := h k (by omega)
    rw [← e]
    simp only [id, decide_eq_true_eq]
    simpa [List.getD, show k < ns.length by omega, show k + 1 < ns.length by omega, Nat.add_comm] using this
end PG
namespace PG
open DN Gf
open L2 (Key)
open PySem (PyData Str)
theorem dLoop_c (g : Env → R → O Unit) (b : Env → O Fl) (r : R) (rs : List R) (ρ : Env) : dLoop g b (r :: rs) ρ = (g ρ r).bind fun ρ _ => (b ρ).bind fun ρ fl => match fl with
    | .nx => dLoop g b rs ρ
    | .ct => dLoop g b rs ρ
    | .bk => .ok ρ .nx
    | .rt r => .ok ρ (.rt r) := by rw [dLoop] <;> rfl
theorem dLoop_n (g : Env → R → O Unit) (b : Env → O Fl) (ρ : Env) : dLoop g b [] ρ = .ok ρ .nx := by rw [dLoop]
theorem fzs_2 (a b : D) : fzs [a, b] = [.fz a, .fz b] := rfl
theorem asc_bits (e : Nat) : ascB (bitsN e) = true := by
  rw [asc_iff]
  intro k hk
  have := List.pairwise_iff_getElem.mp (bitsN_lt e) k (k + 1) (by omega) hk (by omega)
  simpa [List.getD, show k < (bitsN e).length by omega, hk] using this
section
variable {b e : Nat} {xs : List Nat}
theorem sel_mark (hx : ∀ x ∈ xs, x < 2 ^ b) (he : e < 2 ^ xs.length) : sel (xs.map fun x => x ||| 2 ^ b) e = xs1 xs (bitsN e) ^^^ (if (bitsN e).length % 2 = 1 then 2 ^ b else 0) := by
  rw [← mark_xs hx (bits_idx he)]
  exact (sel_bits (by rw [List.length_map]; exact he)).symm
theorem sel_mark0 (hx : ∀ x ∈ xs, x < 2 ^ b) (he : e < 2 ^ xs.length) (z : sel (xs.map fun x => x ||| 2 ^ b) e = 0) : (bitsN e).length % 2 = 0 ∧ xs1 xs (bitsN e) = 0 := by
  rw [sel_mark hx he] at z
  have lt := xs1_lt hx (bits_idx he)
  by_cases q : (bitsN e).length % 2 = 1
  · rw [if_pos q] at z
    have := xor_eq_zero.mp z
    omega
  · rw [if_neg q, Nat.xor_zero] at z
    exact ⟨by omega, z⟩
theorem sel_mark1 (hx : ∀ x ∈ xs, x < 2 ^ b) (he : e < 2 ^ xs.length) (q : (bitsN e).length % 2 = 0) : sel (xs.map fun x => x ||| 2 ^ b) e = xs1 xs (bitsN e) := by
  rw [sel_mark hx he, if_neg (by omega), Nat.xor_zero]
end
theorem bits_len {e n : Nat} (h : e < 2 ^ n) : (bitsN e).length ≤ n := nodup_le (bitsN_nodup e) fun i hi => by
  have := bits_idx (rs := List.replicate n 0) (p := e) (by rw [List.length_replicate]; exact h) i hi
  rwa [List.length_replicate] at this
def ClR (ps : List (Nat × Nat)) (r : R) : Prop := r = .fz .non ∨ ∃ ns : List Nat, r = .own (.lst (ns.map iN)) ∧ (∀ i ∈ ns, i < ps.length) ∧ ns.length ≤ ps.length ∧ clB ps ns = true
theorem clr_1 {b : Nat} {ps : List (Nat × Nat)} (h : Ways b ps) {e : Nat} (he : e < 2 ^ ps.length) (z : sel ((ps.map (·.1)).map fun x => x ||| 2 ^ b) e = 0) (nz : sel ((ps.map (·.2)).map fun x => x ||| 2 ^ b) e ≠ 0) : ClR ps (.own (.lst ((bitsN e).map iN))) := by
  have he1 : e < 2 ^ (ps.map (·.1)).length := by rw [List.length_map]; exact he
  have he2 : e < 2 ^ (ps.map (·.2)).length := by rw [List.length_map]; exact he
  obtain ⟨q, z1⟩ := sel_mark0 (ways_l h) he1 z
  rw [sel_mark1 (ways_r h) he2 q] at nz
  exact .inr ⟨_, rfl, bits_idx he1 |> fun k i hi => by have := k i hi; rwa [List.length_map] at this, bits_len he, by simp [clB, asc_bits, q, z1, nz]⟩
theorem clr_2 {b : Nat} {ps : List (Nat × Nat)} (h : Ways b ps) {e : Nat} (he : e < 2 ^ ps.length) (z : sel ((ps.map (·.2)).map fun x => x ||| 2 ^ b) e = 0) (nz : sel ((ps.map (·.1)).map fun x => x ||| 2 ^ b) e ≠ 0) : ClR ps (.own (.lst ((bitsN e).map iN))) := by
  have he1 : e < 2 ^ (ps.map (·.1)).length := by rw [List.length_map]; exact he
  have he2 : e < 2 ^ (ps.map (·.2)).length := by rw [List.length_map]; exact he
  obtain ⟨q, z1⟩ := sel_mark0 (ways_r h) he2 z
  rw [sel_mark1 (ways_l h) he1 q] at nz
  exact .inr ⟨_, rfl, bits_idx he1 |> fun k i hi => by have := k i hi; rwa [List.length_map] at this, bits_len he, by simp [clB, asc_bits, q, z1, nz]⟩
theorem mark_lt {b : Nat} {xs : List Nat} (h : ∀ x ∈ xs, x < 2 ^ b) : ∀ x ∈ xs.map (fun x => x ||| 2 ^ b), x < 2 ^ (b + 1) := fun x hx => by
  obtain ⟨y, hy, rfl⟩ := List.mem_map.mp hx
  exact Nat.or_lt_two_pow (Nat.lt_trans (h y hy) (Nat.pow_lt_pow_right (by decide) (by omega))) (Nat.pow_lt_pow_right (by decide) (by omega))
end PG
namespace PG
open DN Gf
open L2 (Key)
open PySem (PyData Str)
end PG
namespace PG
open DN Gf
open PySem (PyData Str)
theorem p_need_few {b n : Nat} (h : b ≤ n) : d_need_few [iN b, iN n] = .ok [] (.fz .non) := by
  have : ¬ n < b := by omega
  simp [d_need_few, b_need_few, this]
end PG
namespace Gf
theorem SpanP.cons_inv {m : Nat × Nat} {L : List (Nat × Nat)} {x y : Nat} (h : SpanP (m :: L) x y) : SpanP L x y ∨ SpanP L (x ^^^ m.1) (y ^^^ m.2) := by
  have key : ∀ x' y', SpanP (m :: L) x' y' → SpanP L x' y' ∨ SpanP L (x' ^^^ m.1) (y' ^^^ m.2) := by
    intro x' y' h
    cases h with
    | out h => exact .inl h
    | inn h => exact .inr (h.cast (by rw [xor_c]) (by rw [xor_c]))
  exact key x y h
theorem SpanP.snoc {L : List (Nat × Nat)} {m : Nat × Nat} {x y : Nat} : SpanP (L ++ [m]) x y ↔ SpanP L x y ∨ SpanP L (x ^^^ m.1) (y ^^^ m.2) := by
  constructor
  · intro h
    refine SpanP.cons_inv (h.of_mem fun k hk => ?_)
    rcases List.mem_append.mp hk with hk | hk
    · exact List.mem_cons_of_mem _ hk
    · rw [List.mem_singleton.mp hk]; exact List.mem_cons_self
  · intro h
    rcases h with h | h
    · exact h.of_mem fun k hk => List.mem_append_left _ hk
    · have h1 : SpanP (L ++ [m]) (x ^^^ m.1) (y ^^^ m.2) := h.of_mem fun k hk => List.mem_append_left _ hk
      have h2 : SpanP (L ++ [m]) m.1 m.2 := .mem (List.mem_append_right _ List.mem_cons_self)
      exact (h1.xor h2).cast (xor_d _ _) (xor_d _ _)
/-- one map, there and back -/
def Fn (L : List (Nat × Nat)) : Prop := ∀ x y, SpanP L x y → (x = 0 ↔ y = 0)
theorem Fn.nil : Fn [] := fun x y h => by cases h; simp
theorem Fn.sub {L M : List (Nat × Nat)} (h : Fn M) (q : ∀ m ∈ L, m ∈ M) : Fn L := fun x y s => h x y (s.of_mem q)
theorem Fn.uniq {L : List (Nat × Nat)} (h : Fn L) {x y y' : Nat} (s : SpanP L x y) (s' : SpanP L x y') : y = y' := by
  have := (h _ _ (s.xor s')).mp (Nat.xor_self x)
  exact xor_eq_zero.mp this
theorem Fn.uniq' {L : List (Nat × Nat)} (h : Fn L) {x x' y : Nat} (s : SpanP L x y) (s' : SpanP L x' y) : x = x' := by
  have := (h _ _ (s.xor s')).mpr (Nat.xor_self y)
  exact xor_eq_zero.mp this
theorem Fn.snoc_in {L : List (Nat × Nat)} (h : Fn L) {x y0 y : Nat} (s : SpanP L x y0) : Fn (L ++ [(x, y)]) ↔ y = y0 := by
  constructor
  · intro k
    exact k.uniq (SpanP.mem (m := (x, y)) (by simp)) (SpanP.snoc.mpr (.inl s))
  · rintro rfl u v q
    rcases SpanP.snoc.mp q with q | q
    · exact h u v q
    · exact h u v ((q.xor s).cast (xor_d _ _) (xor_d _ _))
theorem Fn.snoc_out {L : List (Nat × Nat)} (h : Fn L) {x y : Nat} (s : ¬ Span (L.map (·.1)) x) : Fn (L ++ [(x, y)]) ↔ ¬ Span (L.map (·.2)) y := by
  constructor
  · intro k q
    obtain ⟨x0, q⟩ := SpanP.of_snd q
    have e := k.uniq' (SpanP.snoc.mpr (.inl q)) (SpanP.mem (m := (x, y)) (by simp))
    subst e
    exact s q.fst
  · intro n u v q
    rcases SpanP.snoc.mp q with q | q
    · exact h u v q
    · constructor
      · rintro rfl
        rw [Nat.zero_xor] at q
        exact absurd q.fst s
      · rintro rfl
        rw [Nat.zero_xor] at q
        exact absurd q.snd n
theorem Fn.rks : ∀ (L : List (Nat × Nat)), Fn L → rk (L.map (·.1)) = rk (L.map (·.2)) := by
  refine PG.snocI (P := fun L => Fn L → rk (L.map (·.1)) = rk (L.map (·.2))) (fun _ => rfl) fun L m ih h => ?_
  have h0 : Fn L := h.sub fun k hk => List.mem_append_left _ hk
  rw [List.map_append, List.map_append, List.map_singleton, List.map_singleton]
  by_cases s : Span (L.map (·.1)) m.1
  · obtain ⟨y0, q⟩ := SpanP.of_fst s
    have := (h0.snoc_in q).mp h
    rw [rk_snoc_in s, rk_snoc_in (by rw [this]; exact q.snd), ih h0]
  · have := (h0.snoc_out s).mp h
    rw [rk_snoc_out s, rk_snoc_out this, ih h0]
theorem spanP_sel : ∀ {L : List (Nat × Nat)} {x y : Nat}, SpanP L x y → ∃ e, e < 2 ^ L.length ∧ sel (L.map (·.1)) e = x ∧ sel (L.map (·.2)) e = y
  | _, _, _, .nil => ⟨0, by decide, rfl, rfl⟩
  | _, _, _, .out (m := m) (ms := ms) h => by
    obtain ⟨p, h1, h2, h3⟩ := spanP_sel h
    refine ⟨2 * p, by rw [List.length_cons, Nat.pow_succ]; omega, ?_, ?_⟩
    · rw [List.map_cons, sel, show 2 * p / 2 = p by omega, h2, Nat.testBit_zero, show 2 * p % 2 = 0 by omega]
      simp
    · rw [List.map_cons, sel, show 2 * p / 2 = p by omega, h3, Nat.testBit_zero, show 2 * p % 2 = 0 by omega]
      simp
  | _, _, _, .inn (m := m) (ms := ms) h => by
    obtain ⟨p, h1, h2, h3⟩ := spanP_sel h
    refine ⟨2 * p + 1, by rw [List.length_cons, Nat.pow_succ]; omega, ?_, ?_⟩
    · rw [List.map_cons, sel, show (2 * p + 1) / 2 = p by omega, h2, Nat.testBit_zero, show (2 * p + 1) % 2 = 1 by omega]
      simp
    · rw [List.map_cons, sel, show (2 * p + 1) / 2 = p by omega, h3, Nat.testBit_zero, show (2 * p + 1) % 2 = 1 by omega]
      simp
theorem sel_spanP : ∀ (L : List (Nat × Nat)) (e : Nat), SpanP L (sel (L.map (·.1)) e) (sel (L.map (·.2)) e)
  | [], _ => .nil
  | m :: L, e => by
    rw [List.map_cons, List.map_cons, sel, sel]
    split
    · exact .inn (sel_spanP L _)
    · rw [Nat.zero_xor, Nat.zero_xor]; exact .out (sel_spanP L _)
theorem fn_sel {L : List (Nat × Nat)} : Fn L ↔ ∀ e, e < 2 ^ L.length → (sel (L.map (·.1)) e = 0 ↔ sel (L.map (·.2)) e = 0) := by
  constructor
  · intro h e _
    exact h _ _ (sel_spanP L e)
  · intro h x y s
    obtain ⟨e, h1, rfl, rfl⟩ := spanP_sel s
    exact h e h1
def mkP (b : Nat) (ps : List (Nat × Nat)) : List (Nat × Nat) := ps.map fun q => (q.1 ||| 2 ^ b, q.2 ||| 2 ^ b)
def WaysG (b : Nat) (ps : List (Nat × Nat)) : Prop := ∀ p ∈ ps, p.1 < 2 ^ b ∧ p.2 < 2 ^ b
theorem mkP_snoc (b : Nat) (ps : List (Nat × Nat)) (q : Nat × Nat) : mkP b (ps ++ [q]) = mkP b ps ++ [(q.1 ||| 2 ^ b, q.2 ||| 2 ^ b)] := by
  unfold mkP; rw [List.map_append]; rfl
theorem mkP_fst (b : Nat) (ps : List (Nat × Nat)) : (mkP b ps).map (·.1) = (ps.map (·.1)).map fun x => x ||| 2 ^ b := by
  unfold mkP; rw [List.map_map, List.map_map]; rfl
theorem mkP_snd (b : Nat) (ps : List (Nat × Nat)) : (mkP b ps).map (·.2) = (ps.map (·.2)).map fun x => x ||| 2 ^ b := by
  unfold mkP; rw [List.map_map, List.map_map]; rfl
theorem mkP_len (b : Nat) (ps : List (Nat × Nat)) : (mkP b ps).length = ps.length := List.length_map _
theorem or_markG {b x : Nat} (h : x < 2 ^ b) : x ||| 2 ^ b = x ^^^ 2 ^ b := by
  refine Nat.eq_of_testBit_eq fun i => ?_
  rw [Nat.testBit_or, Nat.testBit_xor, Nat.testBit_two_pow]
  by_cases e : b = i
  · subst e
    rw [Nat.testBit_lt_two_pow h]
    simp
  · simp [e]
theorem mark_bit {b : Nat} (x : Nat) : (x ||| 2 ^ b).testBit b = true := by rw [Nat.testBit_or, Nat.testBit_two_pow_self]; simp
theorem mark_ltG {b x : Nat} (h : x < 2 ^ b) : x ||| 2 ^ b < 2 ^ (b + 1) := Nat.or_lt_two_pow (Nat.lt_trans h (Nat.pow_lt_pow_right (by decide) (by omega))) (Nat.pow_lt_pow_right (by decide) (by omega))
theorem mark_mod {b x : Nat} (h : x < 2 ^ b) : (x ||| 2 ^ b) % 2 ^ b = x := by
  refine Nat.eq_of_testBit_eq fun i => ?_
  rw [Nat.testBit_mod_two_pow, Nat.testBit_or, Nat.testBit_two_pow]
  by_cases e : i < b
  · simp [e, show ¬ b = i by omega]
  · rw [Nat.testBit_lt_two_pow (Nat.lt_of_lt_of_le h (Nat.pow_le_pow_right (by decide) (show b ≤ i by omega)))]
    simp [e]
theorem mark_inj {b x y : Nat} (hx : x < 2 ^ b) (hy : y < 2 ^ b) (e : x ||| 2 ^ b = y ||| 2 ^ b) : x = y := by
  rw [← mark_mod hx, e, mark_mod hy]
theorem mark_of {b z : Nat} (h : z < 2 ^ (b + 1)) (hb : z.testBit b = true) : z % 2 ^ b ||| 2 ^ b = z := by
  refine Nat.eq_of_testBit_eq fun i => ?_
  rw [Nat.testBit_or, Nat.testBit_mod_two_pow, Nat.testBit_two_pow]
  by_cases e : i < b
  · simp [e, show ¬ b = i by omega]
  · by_cases e2 : b = i
    · subst e2; simp [hb]
    · rw [Nat.testBit_lt_two_pow (Nat.lt_of_lt_of_le h (Nat.pow_le_pow_right (by decide) (show b + 1 ≤ i by omega)))]
      simp [e, e2]
theorem mkP_lt {b : Nat} {ps : List (Nat × Nat)} (hw : WaysG b ps) {x y : Nat} (h : SpanP (mkP b ps) x y) : x < 2 ^ (b + 1) ∧ y < 2 ^ (b + 1) := by
  refine ⟨h.fst.bound fun m hm => ?_, h.snd.bound fun m hm => ?_⟩
  · rw [mkP_fst, List.map_map] at hm
    obtain ⟨q, hq, rfl⟩ := List.mem_map.mp hm
    exact mark_ltG (hw q hq).1
  · rw [mkP_snd, List.map_map] at hm
    obtain ⟨q, hq, rfl⟩ := List.mem_map.mp hm
    exact mark_ltG (hw q hq).2
def linM (b : Nat) (m : Mp) (x : Nat) : Nat := vec m.1 (x % 2 ^ b) ^^^ (if x.testBit b = true then m.2 ^^^ 2 ^ b else 0)
theorem linM_mark {b : Nat} {m : Mp} (h : Map b m) {x : Nat} (hx : x < 2 ^ b) : linM b m (x ||| 2 ^ b) = app m x ||| 2 ^ b := by
  unfold linM
  rw [mark_mod hx, mark_bit, if_pos rfl, or_markG (app_lt h x)]
  unfold app
  rw [← Nat.xor_assoc, Nat.xor_comm (vec m.1 x) m.2]
theorem linM_xor (b : Nat) (m : Mp) (x y : Nat) : linM b m (x ^^^ y) = linM b m x ^^^ linM b m y := by
  unfold linM
  rw [Nat.xor_mod_two_pow, vec_xor, Nat.testBit_xor, xor_4]
  congr 1
  cases x.testBit b <;> cases y.testBit b <;> simp
theorem linM_zero {b : Nat} {m : Mp} (h : Map b m) {x : Nat} (hx : x < 2 ^ (b + 1)) (e : linM b m x = 0) : x = 0 := by
  have hv := vec_lt m.1 (x % 2 ^ b)
  rw [h.len] at hv
  have hb : x.testBit b = false := by
    cases hc : x.testBit b with
    | false => rfl
    | true =>
      have := congrArg (·.testBit b) e
      unfold linM at this
      rw [hc, if_pos rfl] at this
      simp only [Nat.testBit_xor, Nat.testBit_lt_two_pow hv, Nat.testBit_lt_two_pow h.off, Nat.testBit_two_pow_self, Nat.zero_testBit] at this
      cases this
  have hx' : x < 2 ^ b := by
    refine Nat.lt_pow_two_of_testBit _ fun i hi => ?_
    rcases Nat.lt_or_eq_of_le hi with hi | rfl
    · exact Nat.testBit_lt_two_pow (Nat.lt_of_lt_of_le hx (Nat.pow_le_pow_right (by decide) hi))
    · exact hb
  unfold linM at e
  rw [hb, Nat.mod_eq_of_lt hx'] at e
  simp only [Bool.false_eq_true, if_false, Nat.xor_zero] at e
  exact vec_inj h hx' e
def Agr (m : Mp) (ps : List (Nat × Nat)) : Prop := ∀ q ∈ ps, app m q.1 = q.2
theorem agr_span {b : Nat} {m : Mp} {ps : List (Nat × Nat)} (h : Map b m) (hw : WaysG b ps) (ha : Agr m ps) : ∀ {x y : Nat}, SpanP (mkP b ps) x y → y = linM b m x := by
  induction ps with
  | nil =>
    intro x y s
    cases s
    unfold linM
    simp [vec_zero]
  | cons p ps ih =>
    intro x y s
    have hw' : WaysG b ps := fun q hq => hw q (List.mem_cons_of_mem _ hq)
    have ha' : Agr m ps := fun q hq => ha q (List.mem_cons_of_mem _ hq)
    rcases SpanP.cons_inv (show SpanP ((p.1 ||| 2 ^ b, p.2 ||| 2 ^ b) :: mkP b ps) x y from s) with s | s
    · exact ih hw' ha' s
    · have := ih hw' ha' s
      have e := linM_mark h (hw p List.mem_cons_self).1
      rw [ha p List.mem_cons_self] at e
      rw [linM_xor, e] at this
      simp only at this
      have := congrArg (· ^^^ (p.2 ||| 2 ^ b)) this
      simpa only [xor_d] using this
theorem agr_fn {b : Nat} {m : Mp} {ps : List (Nat × Nat)} (h : Map b m) (hw : WaysG b ps) (ha : Agr m ps) : Fn (mkP b ps) := fun x y s => by
  have e := agr_span h hw ha s
  constructor
  · rintro rfl
    rw [e]
    unfold linM
    simp [vec_zero]
  · intro hy
    rw [hy] at e
    exact linM_zero h (mkP_lt hw s).1 e.symm
end Gf
namespace PG
open DN Gf
open L2 (Key)
open PySem (PyData Str)
theorem span_split {A B : List Nat} {q : Nat} (h : Span (A ++ B) q) : ∃ a c, Span A a ∧ Span B c ∧ q = a ^^^ c := by
  induction A generalizing q with
  | nil => exact ⟨0, q, .nil, h, by simp⟩
  | cons m A ih =>
    rcases (show Span (m :: (A ++ B)) q from h).cons_inv with h | ⟨y, rfl, h'⟩
    · obtain ⟨a, c, h1, h2, h3⟩ := ih h
      exact ⟨a, c, .out h1, h2, h3⟩
    · obtain ⟨a, c, h1, h2, rfl⟩ := ih h'
      exact ⟨m ^^^ a, c, .inn h1, h2, by rw [Nat.xor_assoc]⟩
theorem sel_span0 {ms E : List Nat} {q : Nat} (h : ∀ e ∈ E, sel ms e = 0) (s : Span E q) : sel ms q = 0 := by
  induction s with
  | nil => exact sel_zero ms
  | out _ ih => exact ih fun e he => h e (List.mem_cons_of_mem _ he)
  | inn _ ih => rw [sel_xor, h _ List.mem_cons_self, ih fun e he => h e (List.mem_cons_of_mem _ he), Nat.xor_zero]
/-- what makes 0 is made of what was told to make 0 -/
theorem Elim.ker {b : Nat} {L : Leads} {E ms : List Nat} (h : Elim b L E ms) {q : Nat} (hq : q < 2 ^ ms.length) (z : sel ms q = 0) : Span E q := by
  obtain ⟨a, c, h1, h2, rfl⟩ := span_split (h.all q hq)
  rw [sel_xor, sel_span0 (fun e he => (h.ek e he).2.2) h2, Nat.xor_zero] at z
  rw [← map_s] at h1
  obtain ⟨x, s⟩ := SpanP.of_snd h1
  have hx := SpanP.sel (ms := ms) (fun m hm => by
    obtain ⟨p, hp, rfl⟩ := List.mem_map.mp hm
    exact (h.pk p hp).2) s
  rw [z] at hx
  subst hx
  have ha : a = 0 := Gf.Ech.zeroP h.bas.ech s
  rw [ha, Nat.zero_xor]
  exact h2
theorem fn_of_elim {b : Nat} {L1 L2 : Leads} {E1 E2 : List Nat} {ps : List (Nat × Nat)} (k1 : Elim b L1 E1 (ps.map (·.1))) (k2 : Elim b L2 E2 (ps.map (·.2))) (c1 : ∀ e ∈ E1, sel (ps.map (·.2)) e = 0) (c2 : ∀ e ∈ E2, sel (ps.map (·.1)) e = 0) : Fn ps :=
  fn_sel.mpr fun e he => ⟨fun z => sel_span0 c1 (k1.ker (by rw [List.length_map]; exact he) z), fun z => sel_span0 c2 (k2.ker (by rw [List.length_map]; exact he) z)⟩
theorem p_clash_inS {n : Nat} {os : List Nat} (ho : os.length = n) (hn : n ≤ 1000) {s0 s1 s2 s3 s4 : Sl} : ∀ (E : List Nat) (y6 : Sl), (∀ e ∈ E, e < 2 ^ n) →
    ∃ y, ((∀ e ∈ E, sel os e = 0) ∧ dLoop (store 6) x_clash_of_1 (fzs (E.map iN)) [s0, s1, s2, s3, s4, .fz (.lst (os.map iN)), y6] = .ok [s0, s1, s2, s3, s4, .fz (.lst (os.map iN)), y] .nx) ∨
      ∃ e ∈ E, sel os e ≠ 0 ∧ dLoop (store 6) x_clash_of_1 (fzs (E.map iN)) [s0, s1, s2, s3, s4, .fz (.lst (os.map iN)), y6] = .ok [s0, s1, s2, s3, s4, .fz (.lst (os.map iN)), y] (.rt (.own (.lst ((bitsN e).map iN))))
  | [], y6, _ => ⟨y6, .inl ⟨fun e he => (nomatch he), rfl⟩⟩
  | e :: E, y6, h => by
    have he := h e List.mem_cons_self
    have e1 := p_bits_of (k := n) he hn
    have e2 := p_put_bits (rs := os) (p := e) (by rw [ho]; exact he)
    obtain ⟨y, ih⟩ := p_clash_inS ho hn (s0 := s0) (s1 := s1) (s2 := s2) (s3 := s3) (s4 := s4) E (.fz (iN e)) fun x hx => h x (List.mem_cons_of_mem _ hx)
    rw [List.map_cons]
    show ∃ y, (_ ∧ dLoop (store 6) x_clash_of_1 (.fz (iN e) :: fzs (E.map iN)) _ = _) ∨ ∃ e' ∈ e :: E, _ ∧ dLoop (store 6) x_clash_of_1 (.fz (iN e) :: fzs (E.map iN)) _ = _
    unfold dLoop
    generalize hA : os.map iN = A at *
    by_cases hz : sel os e = 0
    · have hx : x_clash_of_1 [s0, s1, s2, s3, s4, .fz (.lst A), .fz (iN e)] = .ok [s0, s1, s2, s3, s4, .fz (.lst A), .fz (iN e)] .nx := by
        simp [x_clash_of_1, e1, e2, hz]
      have hg : store 6 [s0, s1, s2, s3, s4, .fz (.lst A), y6] (.fz (iN e)) = .ok [s0, s1, s2, s3, s4, .fz (.lst A), .fz (iN e)] () := rfl
      refine ⟨y, ?_⟩
      rw [hg, O.bind_ok, hx, O.bind_ok]
      rcases ih with ⟨i1, ih⟩ | ⟨e', m1, m2, ih⟩
      · exact .inl ⟨fun x hx => by
          rcases List.mem_cons.mp hx with rfl | hx
          · exact hz
          · exact i1 x hx, ih⟩
      · exact .inr ⟨e', List.mem_cons_of_mem _ m1, m2, ih⟩
    · have hx : x_clash_of_1 [s0, s1, s2, s3, s4, .fz (.lst A), .fz (iN e)] = .ok [s0, s1, s2, s3, s4, .fz (.lst A), .fz (iN e)] (.rt (.own (.lst ((bitsN e).map iN)))) := by
        simp [x_clash_of_1, e1, e2, hz]
      have hg : store 6 [s0, s1, s2, s3, s4, .fz (.lst A), y6] (.fz (iN e)) = .ok [s0, s1, s2, s3, s4, .fz (.lst A), .fz (iN e)] () := rfl
      refine ⟨.fz (iN e), .inr ⟨e, List.mem_cons_self, hz, ?_⟩⟩
      rw [hg, O.bind_ok, hx, O.bind_ok]
/-- a told clash -/
def ClG (ps : List (Nat × Nat)) (ns : List Nat) : Prop := (∀ i ∈ ns, i < ps.length) ∧ ns.length ≤ ps.length ∧ clB ps ns = true
theorem ClR.out {ps : List (Nat × Nat)} {ns : List Nat} (h : ClR ps (.own (.lst (ns.map iN)))) : ClG ps ns := by
  rcases h with h | ⟨ms, h, q⟩
  · cases h
  · have : ns = ms := by
      injection h with h
      injection h with h
      have hi : ∀ x y : Nat, iN x = iN y → x = y := fun x y e => by
        have : D.int (x : Int) = D.int (y : Int) := e
        injection this with this
        omega
      exact List.map_inj_right hi |>.mp h
    rw [this]; exact q
/-- the clash of ways -/
theorem p_clash_ofS {b : Nat} {ps : List (Nat × Nat)} (hb : b ≤ 60) (hl : ps.length ≤ 100) (h : Ways b ps) : (Fn (mkP b ps) ∧ d_clash_of [iN b, .lst (ps.map tN)] = .ok [] (.fz .non)) ∨ (¬ Fn (mkP b ps) ∧ ∃ ns : List Nat, d_clash_of [iN b, .lst (ps.map tN)] = .ok [] (.own (.lst (ns.map iN))) ∧ ClG ps ns) := by
  have e2 := p_begins_of (b := b) (ps := ps) (by omega) hl
  have e3 := p_ends_of (b := b) (ps := ps) (by omega) hl
  obtain ⟨L1, E1, e4, k1⟩ := p_eliminated (b := b + 1) (ms := (ps.map (·.1)).map fun x => x ||| 2 ^ b) (by omega) (by simp; omega) (mark_lt (ways_l h))
  obtain ⟨L2, E2, e5, k2⟩ := p_eliminated (b := b + 1) (ms := (ps.map (·.2)).map fun x => x ||| 2 ^ b) (by omega) (by simp; omega) (mark_lt (ways_r h))
  have l1 : ((ps.map (·.1)).map fun x => x ||| 2 ^ b).length = ps.length := by simp
  have l2 : ((ps.map (·.2)).map fun x => x ||| 2 ^ b).length = ps.length := by simp
  have c1 := fun e he => clr_1 h (e := e) he
  have c2 := fun e he => clr_2 h (e := e) he
  have f0 := fn_of_elim (ps := mkP b ps) (by rw [mkP_fst]; exact k1) (by rw [mkP_snd]; exact k2)
  have f1 := fn_sel (L := mkP b ps)
  rw [mkP_fst, mkP_snd] at f0 f1
  rw [mkP_len] at f1
  generalize (ps.map (·.1)).map (fun x => x ||| 2 ^ b) = bs at *
  generalize (ps.map (·.2)).map (fun x => x ||| 2 ^ b) = es at *
  have w1 : ∀ e ∈ E1, e < 2 ^ ps.length := fun e he => by have := (k1.ek e he).1; rwa [l1] at this
  have w2 : ∀ e ∈ E2, e < 2 ^ ps.length := fun e he => by have := (k2.ek e he).1; rwa [l2] at this
  obtain ⟨y1, q1⟩ := p_clash_inS (n := ps.length) (os := es) l2 (by omega) (s0 := .ln (iN b)) (s1 := .ln (.lst (ps.map tN))) (s2 := .fz (.lst (bs.map iN))) (s3 := .fz (.lst (es.map iN))) (s4 := .fz (.lst (bs.map iN))) E1 .un w1
  obtain ⟨y2, q2⟩ := p_clash_inS (n := ps.length) (os := bs) l1 (by omega) (s0 := .ln (iN b)) (s1 := .ln (.lst (ps.map tN))) (s2 := .fz (.lst (bs.map iN))) (s3 := .fz (.lst (es.map iN))) (s4 := .fz (.lst (es.map iN))) E2 y1 w2
  have fin : ∀ r, d_clash_of [iN b, .lst (ps.map tN)] = .ok [] r → ((Fn (mkP b ps) ∧ r = .fz .non) ∨ (¬ Fn (mkP b ps) ∧ ∃ ns : List Nat, r = .own (.lst (ns.map iN)) ∧ ClG ps ns)) → ((Fn (mkP b ps) ∧ d_clash_of [iN b, .lst (ps.map tN)] = .ok [] (.fz .non)) ∨ (¬ Fn (mkP b ps) ∧ ∃ ns : List Nat, d_clash_of [iN b, .lst (ps.map tN)] = .ok [] (.own (.lst (ns.map iN))) ∧ ClG ps ns)) := fun r hr q => by
    rcases q with ⟨q1, rfl⟩ | ⟨q1, ns, rfl, q2⟩
    · exact .inl ⟨q1, hr⟩
    · exact .inr ⟨q1, ns, hr, q2⟩
  generalize hA : ps.map tN = A at *
  generalize bs.map iN = B at *
  generalize es.map iN = F at *
  generalize ldD L1 = D1 at *
  generalize ldD L2 = D2 at *
  rcases q1 with ⟨z1, q1⟩ | ⟨e, m1, m2, q1⟩
  · rcases q2 with ⟨z2, q2⟩ | ⟨e, m1, m2, q2⟩
    · exact fin (.fz .non) (by simp [d_clash_of, b_clash_of, fzs_2, dLoop_c, dLoop_n, x_clash_of_2, e2, e3, e4, e5, q1, q2]) (.inl ⟨f0 z1 z2, rfl⟩)
    · refine fin (.own (.lst ((bitsN e).map iN))) ?_ (.inr ⟨fun hf => m2 ((f1.mp hf e (w2 e m1)).mpr (k2.ek e m1).2.2), _, rfl, (c2 e (w2 e m1) (k2.ek e m1).2.2 m2).out⟩)
      clear fin
      generalize (bitsN e).map iN = W at *
      simp [d_clash_of, b_clash_of, fzs_2, dLoop_c, dLoop_n, x_clash_of_2, e2, e3, e4, e5, q1, q2]
  · refine fin (.own (.lst ((bitsN e).map iN))) ?_ (.inr ⟨fun hf => m2 ((f1.mp hf e (w1 e m1)).mp (k1.ek e m1).2.2), _, rfl, (c1 e (w1 e m1) (k1.ek e m1).2.2 m2).out⟩)
    clear fin
    generalize (bitsN e).map iN = W at *
    simp [d_clash_of, b_clash_of, fzs_2, dLoop_c, dLoop_n, x_clash_of_2, e2, e3, e4, e5, q1, q2]
theorem p_clashS {b : Nat} {ps : List (Nat × Nat)} (h1 : 1 ≤ b) (hb : b ≤ 60) (hl : ps.length ≤ 100) (h : Ways b ps) : (Fn (mkP b ps) ∧ d_clash [iN b, .lst (ps.map tN)] = .ok [] (.fz .non)) ∨ (¬ Fn (mkP b ps) ∧ ∃ ns : List Nat, d_clash [iN b, .lst (ps.map tN)] = .ok [] (.own (.lst (ns.map iN))) ∧ ClG ps ns) := by
  have e0 := p_need_both_k52 h1 hb hl h
  rcases p_clash_ofS hb hl h with ⟨f, e⟩ | ⟨f, ns, e, c⟩
  · refine .inl ⟨f, ?_⟩
    generalize ps.map tN = A at *
    simp [d_clash, b_clash, e0, e]
  · refine .inr ⟨f, ns, ?_, c⟩
    generalize ps.map tN = A at *
    generalize ns.map iN = W at *
    simp [d_clash, b_clash, e0, e]
theorem p_need_agreeing {b : Nat} {ps : List (Nat × Nat)} (hb : b ≤ 60) (hl : ps.length ≤ 100) (h : Ways b ps) (hf : Fn (mkP b ps)) : d_need_agreeing [iN b, .lst (ps.map tN)] = .ok [] (.fz .non) := by
  rcases p_clash_ofS hb hl h with ⟨_, e⟩ | ⟨f, _⟩
  · generalize ps.map tN = A at *
    simp [d_need_agreeing, b_need_agreeing, e, isNon]
  · exact absurd hf f
def cntA (b k : Nat) : Nat := (List.range' (k - 1) (b - (k - 1))).foldl (fun a t => a * (2 ^ b - 2 ^ t)) (if k = 0 then 2 ^ b else 1)
open Classical in
noncomputable def agrN (b : Nat) (ps : List (Nat × Nat)) : Nat := if Fn (mkP b ps) then cntA b (rk ((mkP b ps).map (·.1))) else 0
theorem foldl_mulF (f : Nat → Nat) : ∀ (l : List Nat) (a : Nat), l.foldl (fun a t => a * f t) a = a * l.foldl (fun a t => a * f t) 1
  | [], a => by simp
  | t :: l, a => by
    rw [List.foldl_cons, List.foldl_cons, foldl_mulF f l (a * f t), foldl_mulF f l (1 * f t), Nat.one_mul, Nat.mul_assoc]
theorem cntA_0 (b : Nat) : cntA b 0 = 2 ^ b * cntA b 1 := by
  unfold cntA
  rw [foldl_mulF]
  rfl
theorem cntA_succ {b k : Nat} (h : 1 ≤ k) (hk : k ≤ b) : cntA b k = (2 ^ b - 2 ^ (k - 1)) * cntA b (k + 1) := by
  unfold cntA
  have e : b - (k - 1) = (b - (k + 1 - 1)) + 1 := by omega
  rw [if_neg (by omega), if_neg (by omega), e, List.range'_succ, List.foldl_cons, Nat.one_mul, foldl_mulF, show k - 1 + 1 = k + 1 - 1 by omega]
theorem p_agreeing_count {b : Nat} {ps : List (Nat × Nat)} (h1 : 1 ≤ b) (hb : b ≤ 50) (hl : ps.length ≤ 100) (h : Ways b ps) : d_agreeing_count [iN b, .lst (ps.map tN)] = .ok [] (.fz (iN (agrN b ps))) := by
  have e0 := p_need_both_k52 h1 (show b ≤ 60 by omega) hl h
  have e1 := p_need_few (b := b) (n := 50) hb
  rcases p_clash_ofS (show b ≤ 60 by omega) hl h with ⟨f, e⟩ | ⟨f, ns, e, c⟩
  · have e2 := p_begins_of (b := b) (ps := ps) (by omega) hl
    have e3 := p_rank_of (b := b + 1) (ms := (ps.map (·.1)).map fun x => x ||| 2 ^ b) (by omega) (by simp; omega) (mark_lt (ways_l h))
    unfold agrN
    rw [if_pos f, mkP_fst]
    have hbl : ((ps.map (·.1)).map fun x => x ||| 2 ^ b).length = ps.length := by simp
    have hbs := mark_lt (ways_l h)
    generalize (ps.map (·.1)).map (fun x => x ||| 2 ^ b) = bs at *
    generalize hk0 : rk bs = k at *
    have hb6 : b ≤ 100000 := by omega
    obtain ⟨ρ', e4, y4, rfl⟩ := loop_l (g := store 4) (b := x_agreeing_count_1) iN (fun d ρ => ∃ y4, ρ = [.ln (iN b), .ln (.lst (ps.map tN)), .fz (iN k), .fz (iN (d.foldl (fun a t => a * (2 ^ b - 2 ^ t)) (if k = 0 then 2 ^ b else 1))), y4]) (xs := List.range' (k - 1) (b - (k - 1))) (ρ := [.ln (iN b), .ln (.lst (ps.map tN)), .fz (iN k), .fz (iN (if k = 0 then 2 ^ b else 1)), .un]) ⟨_, rfl⟩ (by
      rintro d t u ρ hx ⟨y4, rfl⟩
      have ht : t < b := by
        have : t ∈ List.range' (k - 1) (b - (k - 1)) := by rw [hx]; simp
        have := List.mem_range'_1.mp this
        omega
      have hd : d.length ≤ b := by
        have := len_app hx
        rw [List.length_range'] at this
        omega
      have hle : 2 ^ t ≤ 2 ^ b := Nat.pow_le_pow_right (by decide) (by omega)
      have hs : gShl (iN 1) (iN t) = some (.fz (iN (2 ^ t))) := by simp [show t ≤ 100000 by omega]
      have hp : 2 ^ b ≤ 2 ^ 50 := Nat.pow_le_pow_right (by decide) hb
      have hm := gMulI_r (a := d.foldl (fun a t => a * (2 ^ b - 2 ^ t)) (if k = 0 then 2 ^ b else 1)) (b := 2 ^ b - 2 ^ t) (Nat.lt_of_le_of_lt (Nat.sub_le _ _) (Nat.lt_of_le_of_lt hp (by decide)))
      rw [List.foldl_append]
      generalize d.foldl (fun a t => a * (2 ^ b - 2 ^ t)) (if k = 0 then 2 ^ b else 1) = V at *
      have h2 : (List.foldl (fun a t => a * (2 ^ b - 2 ^ t)) V [t]) = V * (2 ^ b - 2 ^ t) := rfl
      rw [h2]
      generalize ps.map tN = A at *
      simp [x_agreeing_count_1, hs, hb6, hm, hle])
    have hmx : gMax [iN 0, .int ((k : Int) - 1)] = some (.fz (iN (k - 1))) := gMax0 k 1
    have hb7 : b ≤ 1000000 := by omega
    have hm1 : gMax [iN 0, .int (-1)] = some (.fz (iN 0)) := rfl
    have hkb : k ≤ b + 1 := by
      obtain ⟨L, E, _, hE⟩ := p_eliminated (b := b + 1) (ms := bs) (by omega) (by rw [hbl]; omega) hbs
      rw [← hk0, ← hE.rk]
      exact hE.len
    have hk7 : k - 1 ≤ 1000000 := by omega
    have hr2 : rng2 [iN (k - 1), iN b] = some (nI (k - 1), 1, b - (k - 1)) := rng2_N hk7 hb7
    unfold cntA
    generalize (List.range' (k - 1) (b - (k - 1))).foldl (fun a t => a * (2 ^ b - 2 ^ t)) (if k = 0 then 2 ^ b else 1) = V at *
    generalize ps.map tN = A at *
    by_cases hk : k = 0
    · subst hk
      simp only [if_true, Nat.zero_sub, Nat.sub_zero] at e4
      simp [d_agreeing_count, b_agreeing_count, e0, e1, e, e2, e3, e4, hm1, hb6, hb7]
    · rw [if_neg hk] at e4
      simp [d_agreeing_count, b_agreeing_count, e0, e1, e, e2, e3, e4, hmx, hr2, hb6, hb7, hk]
  · have hz : agrN b ps = 0 := by unfold agrN; rw [if_neg f]
    rw [hz]
    generalize ps.map tN = A at *
    generalize ns.map iN = W at *
    simp [d_agreeing_count, b_agreeing_count, e0, e1, e, isNon]
end PG
namespace PG
open DN Gf
open PySem (PyData Str)
theorem par_span {A : List Nat} {d : Nat} (h : ∀ a ∈ A, par (a &&& d) = false) {q : Nat} (hq : Span A q) : par (q &&& d) = false := by
  induction hq with
  | nil => rw [Nat.zero_and]; rfl
  | out _ ih => exact ih fun a ha => h a (List.mem_cons_of_mem _ ha)
  | inn _ ih =>
    rw [par_xor_and, h _ List.mem_cons_self, ih fun a ha => h a (List.mem_cons_of_mem _ ha)]
    rfl
theorem zero_of_par {n d : Nat} (hd : d < 2 ^ n) (h : ∀ q, q < 2 ^ n → par (q &&& d) = false) : d = 0 := by
  refine Nat.eq_of_testBit_eq fun i => ?_
  rw [Nat.zero_testBit]
  by_cases hi : i < n
  · have := h (2 ^ i) (Nat.pow_lt_pow_right (by decide) hi)
    rw [Nat.and_comm, par_and_pow] at this
    exact this
  · exact Nat.testBit_lt_two_pow (Nat.lt_of_lt_of_le hd (Nat.pow_le_pow_right (by decide) (by omega)))
/-- what the leads ask -/
def LE (L : Leads) (o x : Nat) : Prop := ∀ p ∈ L, par (p.2.1 &&& x) = par (p.2.2 &&& o)
theorem sol_iff {b : Nat} {L : Leads} {E ms : List Nat} {o x : Nat} (h : Elim b L E ms) (ho : o < 2 ^ ms.length) : vec ms x = o ↔ LE L o x ∧ ∀ e ∈ E, par (e &&& o) = false := by
  constructor
  · rintro rfl
    refine ⟨fun p hp => ?_, fun e he => ?_⟩
    · rw [← (h.pk p hp).2, par_sel]
    · rw [← par_sel, (h.ek e he).2.2, Nat.zero_and]; rfl
  · rintro ⟨h1, h2⟩
    have : vec ms x ^^^ o = 0 := zero_of_par (Nat.xor_lt_two_pow (vec_lt ms x) ho) fun q hq => par_span (fun a ha => by
      rw [par_and_xor, ← par_sel]
      rcases List.mem_append.mp ha with ha | ha
      · obtain ⟨p, hp, rfl⟩ := List.mem_map.mp ha
        rw [(h.pk p hp).2, h1 p hp]
        simp
      · rw [(h.ek a ha).2.2, Nat.zero_and, h2 a ha]
        rfl) (h.all q hq)
    exact Gf.xor_eq_zero.mp this
def isFr (L : Leads) (i : Nat) : Bool := (find L i).isNone
def frs (b : Nat) (L : Leads) : List Nat := (List.range b).filter (isFr L)
theorem mem_frs {b : Nat} {L : Leads} {i : Nat} : i ∈ frs b L ↔ i < b ∧ find L i = none := by
  unfold frs isFr
  simp
theorem frs_lt (b : Nat) (L : Leads) : (frs b L).Pairwise (· < ·) := List.pairwise_lt_range.filter _
/-- the index of a place -/
def sIdx (fr : List Nat) (x : Nat) : Nat := vec (fr.map fun i => 2 ^ i) x
theorem sIdx_lt (fr : List Nat) (x : Nat) : sIdx fr x < 2 ^ fr.length := by
  have := vec_lt (fr.map fun i => 2 ^ i) x
  rwa [List.length_map] at this
theorem sIdx_bit {fr : List Nat} {x j : Nat} (h : j < fr.length) : (sIdx fr x).testBit j = x.testBit fr[j] := by
  unfold sIdx
  rw [vec_bit' x (by simpa using h), List.getElem_map, Nat.and_comm, par_and_pow]
/-- two unlike places that the leads let part first at a free bit -/
theorem part_free {b : Nat} {L : Leads} {o x y : Nat} (low : Low L) (hx : x < 2 ^ b) (hy : y < 2 ^ b) (h1 : LE L o x) (h2 : LE L o y) (ne : x ≠ y) :
    ∃ t ∈ frs b L, x.testBit t ≠ y.testBit t ∧ ∀ i, t < i → x.testBit i = y.testBit i := by
  have h0 : x ^^^ y ≠ 0 := fun z => ne (Gf.xor_eq_zero.mp z)
  refine ⟨(x ^^^ y).log2, ?_, ?_, fun i hi => ?_⟩
  · have hlt : (x ^^^ y).log2 < b := by
      have := (Nat.log2_lt h0).mpr (Nat.xor_lt_two_pow hx hy)
      exact this
    refine mem_frs.mpr ⟨hlt, ?_⟩
    cases hf : find L (x ^^^ y).log2 with
    | none => rfl
    | some q =>
      have hm := find_mem hf
      obtain ⟨l1, l2⟩ := low _ hm
      simp only at l1 l2
      have e : par (q.1 &&& (x ^^^ y)) = false := by
        rw [par_and_xor, h1 _ hm, h2 _ hm]
        simp
      have e2 : q.1 &&& (x ^^^ y) = 2 ^ (x ^^^ y).log2 := by
        refine Nat.eq_of_testBit_eq fun j => ?_
        rw [Nat.testBit_and, Nat.testBit_two_pow]
        by_cases hj : (x ^^^ y).log2 = j
        · subst hj
          rw [l1, top_bit h0]
          simp
        · by_cases hj2 : j < (x ^^^ y).log2
          · rw [l2 j hj2]
            simp [hj]
          · rw [above_top (show (x ^^^ y).log2 < j by omega)]
            simp [hj]
      rw [e2, par_pow] at e
      cases e
  · have := top_bit h0
    rw [Nat.testBit_xor] at this
    intro e
    rw [e] at this
    simp at this
  · have := above_top hi
    rw [Nat.testBit_xor] at this
    revert this
    cases x.testBit i <;> cases y.testBit i <;> simp
theorem sIdx_inj {b : Nat} {L : Leads} {o x y : Nat} (low : Low L) (hx : x < 2 ^ b) (hy : y < 2 ^ b) (h1 : LE L o x) (h2 : LE L o y) (e : sIdx (frs b L) x = sIdx (frs b L) y) : x = y := Classical.byContradiction fun ne => by
  obtain ⟨t, ht, h3, _⟩ := part_free low hx hy h1 h2 ne
  obtain ⟨j, hj, rfl⟩ := List.getElem_of_mem ht
  apply h3
  rw [← sIdx_bit hj, ← sIdx_bit hj, e]
theorem sIdx_mono {b : Nat} {L : Leads} {o x y : Nat} (low : Low L) (hx : x < 2 ^ b) (hy : y < 2 ^ b) (h1 : LE L o x) (h2 : LE L o y) (lt : x < y) : sIdx (frs b L) x < sIdx (frs b L) y := by
  obtain ⟨t, ht, h3, h4⟩ := part_free low hx hy h1 h2 (Nat.ne_of_lt lt)
  obtain ⟨j, hj, rfl⟩ := List.getElem_of_mem ht
  have hb : x.testBit (frs b L)[j] = false ∧ y.testBit (frs b L)[j] = true := by
    cases e1 : x.testBit (frs b L)[j] with
    | false =>
      refine ⟨rfl, ?_⟩
      rw [e1] at h3
      simpa using h3
    | true =>
      exfalso
      rw [e1] at h3
      have e2 : y.testBit (frs b L)[j] = false := by simpa using h3
      have := lt_of_bits e2 e1 fun i hi => (h4 i hi).symm
      omega
  refine lt_of_bits (i := j) (by rw [sIdx_bit hj]; exact hb.1) (by rw [sIdx_bit hj]; exact hb.2) fun i hi => ?_
  by_cases hi2 : i < (frs b L).length
  · rw [sIdx_bit hi2, sIdx_bit hi2]
    exact h4 _ (List.pairwise_iff_getElem.mp (frs_lt b L) j i hj hi2 hi)
  · rw [Nat.testBit_lt_two_pow (Nat.lt_of_lt_of_le (sIdx_lt _ x) (Nat.pow_le_pow_right (by decide) (by omega))), Nat.testBit_lt_two_pow (Nat.lt_of_lt_of_le (sIdx_lt _ y) (Nat.pow_le_pow_right (by decide) (by omega)))]
theorem sIdx_lt_iff {b : Nat} {L : Leads} {o x y : Nat} (low : Low L) (hx : x < 2 ^ b) (hy : y < 2 ^ b) (h1 : LE L o x) (h2 : LE L o y) : x < y ↔ sIdx (frs b L) x < sIdx (frs b L) y := by
  refine ⟨sIdx_mono low hx hy h1 h2, fun h => ?_⟩
  rcases Nat.lt_trichotomy x y with h3 | h3 | h3
  · exact h3
  · subst h3; exact absurd h (Nat.lt_irrefl _)
  · have := sIdx_mono low hy hx h2 h1 h3
    omega
def wiStep (L : Leads) (o i : Nat) (s : Nat × Nat) (t : Nat) : Nat × Nat := match find L t with
  | some q => (s.1 ||| (par (q.1 &&& s.1) ^^ par (q.2 &&& o)).toNat * 2 ^ t, s.2)
  | none => (s.1 ||| (i.testBit (s.2 - 1)).toNat * 2 ^ t, s.2 - 1)
def wiGo (b : Nat) (L : Leads) (o i : Nat) (ts : List Nat) (s : Nat × Nat) : Nat × Nat := ts.foldl (wiStep L o i) s
def wi (b : Nat) (L : Leads) (o i : Nat) : Nat := (wiGo b L o i (List.range b).reverse (0, (frs b L).length)).1
/-- how many free bits lie below -/
def frN (L : Leads) (k : Nat) : Nat := (frs k L).length
theorem frN_succ (L : Leads) (k : Nat) : frN L (k + 1) = frN L k + (isFr L k).toNat := by
  unfold frN frs
  rw [List.range_succ, List.filter_append, List.length_append]
  cases h : isFr L k <;> simp [h]
/-- what holds while the bits from k on are told -/
structure Wi (b : Nat) (L : Leads) (o i k : Nat) (s : Nat × Nat) : Prop where
  lt : s.1 < 2 ^ b
  low : ∀ j, j < k → s.1.testBit j = false
  led : ∀ p ∈ L, k ≤ p.1 → par (p.2.1 &&& s.1) = par (p.2.2 &&& o)
  fre : ∀ t, k ≤ t → t < b → find L t = none → s.1.testBit t = i.testBit (frN L t)
  cnt : s.2 = frN L k
theorem or_bit {x t : Nat} {c : Bool} (h : x.testBit t = false) : x ||| c.toNat * 2 ^ t = x ^^^ c.toNat * 2 ^ t := by
  refine Nat.eq_of_testBit_eq fun j => ?_
  rw [Nat.testBit_or, Nat.testBit_xor, bit_one]
  by_cases hj : j = t
  · subst hj; rw [h]; cases c <;> simp
  · simp [hj]
theorem and_bit {m t : Nat} {c : Bool} (h : m.testBit t = true) : par (m &&& c.toNat * 2 ^ t) = c := by
  have : m &&& c.toNat * 2 ^ t = c.toNat * 2 ^ t := by
    refine Nat.eq_of_testBit_eq fun j => ?_
    rw [Nat.testBit_and, bit_one]
    by_cases hj : j = t
    · subst hj; rw [h]; simp
    · simp [hj]
  rw [this, par_shl]
  cases c <;> rfl
theorem and_bit0 {m t : Nat} {c : Bool} (h : m.testBit t = false) : par (m &&& c.toNat * 2 ^ t) = false := by
  have : m &&& c.toNat * 2 ^ t = 0 := by
    refine Nat.eq_of_testBit_eq fun j => ?_
    rw [Nat.testBit_and, bit_one, Nat.zero_testBit]
    by_cases hj : j = t
    · subst hj; rw [h]; simp
    · simp [hj]
  rw [this]
  rfl
theorem find_nd : ∀ {L : Leads}, (L.map (·.1)).Nodup → ∀ {p : Nat × Nat × Nat}, p ∈ L → find L p.1 = some p.2
  | q :: L, nd, p, hp => by
    rw [List.map_cons] at nd
    obtain ⟨n1, n2⟩ := List.nodup_cons.mp nd
    unfold find
    rw [List.find?_cons]
    rcases List.mem_cons.mp hp with rfl | hp
    · simp
    · have ne : ¬ q.1 = p.1 := fun e => n1 (e ▸ List.mem_map.mpr ⟨p, hp, rfl⟩)
      simp only [ne, decide_false]
      exact find_nd n2 hp
theorem Wi.step {b : Nat} {L : Leads} {o i k : Nat} {s : Nat × Nat} (low : Low L) (nd : (L.map (·.1)).Nodup) (hk : k < b) (h : Wi b L o i (k + 1) s) : Wi b L o i k (wiStep L o i s k) := by
  have h0 : s.1.testBit k = false := h.low k (Nat.lt_succ_self k)
  -- any bit may be put there; what it must be
  have put : ∀ (c : Bool) (n : Nat), (∀ p ∈ L, p.1 = k → (par (p.2.1 &&& s.1) ^^ c) = par (p.2.2 &&& o)) → (find L k = none → c = i.testBit (frN L k)) → n = frN L k → Wi b L o i k (s.1 ||| c.toNat * 2 ^ k, n) := fun c n h1 h2 h3 => by
    refine ⟨?_, fun j hj => ?_, fun p hp hpk => ?_, fun t ht htb hf => ?_, h3⟩
    · show s.1 ||| c.toNat * 2 ^ k < 2 ^ b
      rw [or_bit h0]
      exact Nat.xor_lt_two_pow h.lt (bit_lt hk c)
    · show (s.1 ||| c.toNat * 2 ^ k).testBit j = false
      rw [Nat.testBit_or, bit_one, h.low j (by omega)]
      simp
      omega
    · show par (p.2.1 &&& (s.1 ||| c.toNat * 2 ^ k)) = _
      rw [or_bit h0, par_and_xor]
      obtain ⟨l1, l2⟩ := low p hp
      by_cases e : p.1 = k
      · rw [← e, and_bit l1]
        exact h1 p hp e
      · rw [and_bit0 (l2 k (by omega)), Bool.xor_false]
        exact h.led p hp (by omega)
    · show (s.1 ||| c.toNat * 2 ^ k).testBit t = _
      rw [Nat.testBit_or, bit_one]
      by_cases e : t = k
      · subst e
        rw [h0, h2 hf]
        simp
      · rw [h.fre t (by omega) htb hf]
        simp [e]
  unfold wiStep
  cases hf : find L k with
  | some q =>
    refine put _ _ (fun p hp e => ?_) (fun z => by rw [hf] at z; cases z) ?_
    · have hq : p.2 = q := by
        have := find_nd nd hp
        rw [e, hf] at this
        exact (Option.some.inj this).symm
      rw [hq, ← Bool.xor_assoc, Bool.xor_self, Bool.false_xor]
    · have := h.cnt
      rw [frN_succ, isFr, hf] at this
      simpa using this
  | none =>
    have hc := h.cnt
    rw [frN_succ, isFr, hf] at hc
    have hc' : s.2 = frN L k + 1 := by simpa using hc
    refine put _ _ (fun p hp e => ?_) (fun _ => ?_) ?_
    · exfalso
      obtain ⟨q, hq⟩ := find_some (L := L) (b := k) (List.mem_map.mpr ⟨p, hp, e⟩)
      rw [hf] at hq
      cases hq
    · rw [hc']
      simp
    · show s.2 - 1 = frN L k
      omega
theorem wi_go {b : Nat} {L : Leads} {o i : Nat} (low : Low L) (nd : (L.map (·.1)).Nodup) : ∀ (k : Nat) (s : Nat × Nat), k ≤ b → Wi b L o i k s → Wi b L o i 0 (wiGo b L o i (List.range k).reverse s)
  | 0, s, _, h => h
  | k + 1, s, hk, h => by
    unfold wiGo
    rw [List.range_succ, List.reverse_append, List.reverse_cons, List.reverse_nil, List.nil_append, List.singleton_append, List.foldl_cons]
    exact wi_go low nd k _ (by omega) (h.step low nd (by omega))
theorem wi_ok {b : Nat} {L : Leads} {o i : Nat} (low : Low L) (nd : (L.map (·.1)).Nodup) (lt : ∀ p ∈ L, p.1 < b) : Wi b L o i 0 (wiGo b L o i (List.range b).reverse (0, (frs b L).length)) :=
  wi_go low nd b _ (Nat.le_refl _) ⟨Nat.two_pow_pos b, fun j _ => Nat.zero_testBit j, fun p hp h => absurd (lt p hp) (by omega), fun t h1 h2 => by omega, rfl⟩
theorem wi_lt {b : Nat} {L : Leads} {o i : Nat} (low : Low L) (nd : (L.map (·.1)).Nodup) (lt : ∀ p ∈ L, p.1 < b) : wi b L o i < 2 ^ b := (wi_ok low nd lt).lt
theorem wi_le {b : Nat} {L : Leads} {o i : Nat} (low : Low L) (nd : (L.map (·.1)).Nodup) (lt : ∀ p ∈ L, p.1 < b) : LE L o (wi b L o i) := fun p hp => (wi_ok low nd lt).led p hp (Nat.zero_le _)
theorem frs_at {b : Nat} {L : Leads} {j : Nat} (h : j < (frs b L).length) : frN L (frs b L)[j] = j := by
  have hm := mem_frs.mp (List.getElem_mem h)
  have hp := frs_lt b L
  generalize ht : (frs b L)[j] = t at *
  -- the free bits below t are the first j ones
  have e : frs t L = (frs b L).take j := by
    have e1 : frs t L = (frs b L).filter fun i => decide (i < t) := by
      unfold frs
      rw [List.filter_filter]
      have : List.range t = (List.range b).filter fun i => decide (i < t) := by
        have hb : b = t + (b - t) := by omega
        rw [hb, List.range_add, List.filter_append, List.filter_eq_self.mpr (by simp), List.filter_eq_nil_iff.mpr (by simp), List.append_nil]
      rw [this, List.filter_filter]
      congr 1
      funext i
      rw [Bool.and_comm]
    rw [e1]
    have hsplit : frs b L = (frs b L).take j ++ (frs b L).drop j := (List.take_append_drop _ _).symm
    conv => lhs; rw [hsplit]
    rw [List.filter_append, List.filter_eq_self.mpr, List.filter_eq_nil_iff.mpr, List.append_nil]
    · intro x hx
      obtain ⟨i, hi, rfl⟩ := List.getElem_of_mem hx
      rw [List.getElem_drop]
      simp only [decide_eq_true_eq, Nat.not_lt]
      have hlen : j + i < (frs b L).length := by rw [List.length_drop] at hi; omega
      by_cases h0 : i = 0
      · subst h0; simp [ht]
      · have := List.pairwise_iff_getElem.mp hp j (j + i) h hlen (by omega)
        rw [ht] at this
        omega
    · intro x hx
      obtain ⟨i, hi, rfl⟩ := List.getElem_of_mem hx
      rw [List.length_take] at hi
      rw [List.getElem_take]
      have := List.pairwise_iff_getElem.mp hp i j (by omega) h (by omega)
      rw [ht] at this
      simpa using this
  unfold frN
  rw [e, List.length_take]
  omega
theorem wi_idx {b : Nat} {L : Leads} {o i : Nat} (low : Low L) (nd : (L.map (·.1)).Nodup) (lt : ∀ p ∈ L, p.1 < b) (hi : i < 2 ^ (frs b L).length) : sIdx (frs b L) (wi b L o i) = i := by
  refine Nat.eq_of_testBit_eq fun j => ?_
  by_cases hj : j < (frs b L).length
  · rw [sIdx_bit hj]
    have hm := mem_frs.mp (List.getElem_mem hj)
    have := (wi_ok (o := o) (i := i) low nd lt).fre _ (Nat.zero_le _) hm.1 hm.2
    rw [frs_at hj] at this
    exact this
  · rw [Nat.testBit_lt_two_pow (Nat.lt_of_lt_of_le (sIdx_lt _ _) (Nat.pow_le_pow_right (by decide) (by omega))), Nat.testBit_lt_two_pow (Nat.lt_of_lt_of_le hi (Nat.pow_le_pow_right (by decide) (by omega)))]
theorem wi_of {b : Nat} {L : Leads} {o x : Nat} (low : Low L) (nd : (L.map (·.1)).Nodup) (lt : ∀ p ∈ L, p.1 < b) (hx : x < 2 ^ b) (h : LE L o x) : wi b L o (sIdx (frs b L) x) = x :=
  sIdx_inj low (wi_lt low nd lt) hx (wi_le low nd lt) h (wi_idx low nd lt (sIdx_lt _ _))
theorem asc_ext {xs ys : List Nat} (h1 : xs.Pairwise (· < ·)) (h2 : ys.Pairwise (· < ·)) (h : ∀ x, x ∈ xs ↔ x ∈ ys) : xs = ys := by
  induction xs generalizing ys with
  | nil =>
    cases ys with
    | nil => rfl
    | cons y ys => exact absurd ((h y).mpr List.mem_cons_self) (by simp)
  | cons x xs ih =>
    cases ys with
    | nil => exact absurd ((h x).mp List.mem_cons_self) (by simp)
    | cons y ys =>
      obtain ⟨p1, p2⟩ := List.pairwise_cons.mp h1
      obtain ⟨q1, q2⟩ := List.pairwise_cons.mp h2
      have e : x = y := by
        rcases List.mem_cons.mp ((h x).mp List.mem_cons_self) with e | e
        · exact e
        · rcases List.mem_cons.mp ((h y).mpr List.mem_cons_self) with e' | e'
          · exact e'.symm
          · have := p1 y e'
            have := q1 x e
            omega
      subst e
      congr 1
      refine ih p2 q2 fun z => ⟨fun hz => ?_, fun hz => ?_⟩
      · rcases List.mem_cons.mp ((h z).mp (List.mem_cons_of_mem _ hz)) with e | e
        · subst e; exact absurd (p1 z hz) (Nat.lt_irrefl _)
        · exact e
      · rcases List.mem_cons.mp ((h z).mpr (List.mem_cons_of_mem _ hz)) with e | e
        · subst e; exact absurd (q1 z hz) (Nat.lt_irrefl _)
        · exact e
/-- the solutions -/
def sols (b : Nat) (ms : List Nat) (o : Nat) : List Nat := (List.range (2 ^ b)).filter fun x => decide (vec ms x = o)
theorem mem_sols {b : Nat} {ms : List Nat} {o x : Nat} : x ∈ sols b ms o ↔ x < 2 ^ b ∧ vec ms x = o := by
  unfold sols
  simp
theorem sols_wrong {b : Nat} {L : Leads} {E ms : List Nat} {o : Nat} (h : Elim b L E ms) (ho : o < 2 ^ ms.length) (hw : E.filter (fun e => par (e &&& o)) ≠ []) : sols b ms o = [] := by
  refine List.filter_eq_nil_iff.mpr fun x _ => ?_
  simp only [decide_eq_true_eq]
  intro e
  apply hw
  exact List.filter_eq_nil_iff.mpr fun a ha => by rw [((sol_iff h ho).mp e).2 a ha]; simp
theorem sols_eq {b : Nat} {L : Leads} {E ms : List Nat} {o : Nat} (h : Elim b L E ms) (ho : o < 2 ^ ms.length) (hw : E.filter (fun e => par (e &&& o)) = []) : sols b ms o = (List.range (2 ^ (frs b L).length)).map (wi b L o) := by
  have hE : ∀ e ∈ E, par (e &&& o) = false := fun e he => by
    have := List.filter_eq_nil_iff.mp hw e he
    simpa using this
  refine asc_ext (List.pairwise_lt_range.filter _) ?_ fun x => ?_
  · refine List.pairwise_map.mpr (List.pairwise_lt_range.imp_of_mem fun {i j} hi hj hlt => ?_)
    have hi := List.mem_range.mp hi
    have hj := List.mem_range.mp hj
    rw [sIdx_lt_iff h.low (wi_lt h.low h.nd h.lt) (wi_lt h.low h.nd h.lt) (wi_le h.low h.nd h.lt) (wi_le h.low h.nd h.lt), wi_idx h.low h.nd h.lt hi, wi_idx h.low h.nd h.lt hj]
    exact hlt
  · constructor
    · intro hx
      obtain ⟨h1, h2⟩ := mem_sols.mp hx
      exact List.mem_map.mpr ⟨_, List.mem_range.mpr (sIdx_lt _ _), wi_of h.low h.nd h.lt h1 ((sol_iff h ho).mp h2).1⟩
    · intro hx
      obtain ⟨i, _, rfl⟩ := List.mem_map.mp hx
      exact mem_sols.mpr ⟨wi_lt h.low h.nd h.lt, (sol_iff h ho).mpr ⟨wi_le h.low h.nd h.lt, hE⟩⟩
end PG
namespace PG
open DN Gf
open L2 (Key)
open PySem (PyData Str)
def sysD (b o : Nat) (L : Leads) (wr fr : List Nat) : D := .ins "System" [("bits_kept", iN b), ("ones", iN o), ("leads", ldD L), ("wrong", .lst (wr.map iN)), ("free", .lst (fr.map iN))]
section
variable {b o : Nat} {L : Leads} {wr fr : List Nat} {x1 x2 x3 x4 x5 d : D}
def sy0 : D := .ins "System" []
def sy1 (a : D) : D := .ins "System" [("bits_kept", a)]
def sy2 (a c : D) : D := .ins "System" [("bits_kept", a), ("ones", c)]
def sy3 (a c e : D) : D := .ins "System" [("bits_kept", a), ("ones", c), ("leads", e)]
def sy4 (a c e f : D) : D := .ins "System" [("bits_kept", a), ("ones", c), ("leads", e), ("wrong", f)]
def sy5 (a c e f g : D) : D := .ins "System" [("bits_kept", a), ("ones", c), ("leads", e), ("wrong", f), ("free", g)]
@[simp] theorem sy_put1 : putAt ["System"] "bits_kept" d (some sy0) = some (sy1 d) := by rfl
@[simp] theorem sy_put2 : putAt ["System"] "ones" d (some (sy1 x1)) = some (sy2 x1 d) := by rfl
@[simp] theorem sy_put3 : putAt ["System"] "leads" d (some (sy2 x1 x2)) = some (sy3 x1 x2 d) := by rfl
@[simp] theorem sy_put4 : putAt ["System"] "wrong" d (some (sy3 x1 x2 x3)) = some (sy4 x1 x2 x3 d) := by rfl
@[simp] theorem sy_put5 : putAt ["System"] "free" d (some (sy4 x1 x2 x3 x4)) = some (sy5 x1 x2 x3 x4 d) := by rfl
@[simp] theorem sy_ones3 : gFld ["System"] "ones" (sy3 x1 x2 x3) = some (.fz x2) := by rfl
@[simp] theorem sy_leads4 : gFld ["System"] "leads" (sy4 x1 x2 x3 x4) = some (.fz x3) := by rfl
@[simp] theorem sy_bits : gFld ["System"] "bits_kept" (sy5 x1 x2 x3 x4 x5) = some (.fz x1) := by rfl
@[simp] theorem sy_ones : gFld ["System"] "ones" (sy5 x1 x2 x3 x4 x5) = some (.fz x2) := by rfl
@[simp] theorem sy_leads : gFld ["System"] "leads" (sy5 x1 x2 x3 x4 x5) = some (.fz x3) := by rfl
@[simp] theorem sy_wrong : gFld ["System"] "wrong" (sy5 x1 x2 x3 x4 x5) = some (.fz x4) := by rfl
@[simp] theorem sy_free : gFld ["System"] "free" (sy5 x1 x2 x3 x4 x5) = some (.fz x5) := by rfl
@[simp] theorem sy_many (ms : List Md) (m : List D → FO) (fs : Env → O (List R)) (ρ : Env) (r : R) : isMe "many" ms [("System", m)] fs ρ r (some (sy5 x1 x2 x3 x4 x5)) = runMe ms fs ρ r (some m) := nr (by rfl)
@[simp] theorem sy_with (ms : List Md) (m : List D → FO) (fs : Env → O (List R)) (ρ : Env) (r : R) : isMe "with_index" ms [("System", m)] fs ρ r (some (sy5 x1 x2 x3 x4 x5)) = runMe ms fs ρ r (some m) := nr (by rfl)
@[simp] theorem sy_index (ms : List Md) (m : List D → FO) (fs : Env → O (List R)) (ρ : Env) (r : R) : isMe "index_of" ms [("System", m)] fs ρ r (some (sy5 x1 x2 x3 x4 x5)) = runMe ms fs ρ r (some m) := nr (by rfl)
end
def onesAt (os : List Nat) : List Nat := (os.zipIdx.filter fun q => decide (q.1 = 1)).map (·.2)
def onesOf (os : List Nat) : Nat := mk (onesAt os)
theorem onesAt_nd (os : List Nat) : (onesAt os).Nodup := by
  unfold onesAt
  refine List.Nodup.sublist (List.Sublist.map _ List.filter_sublist) ?_
  have : os.zipIdx.map (·.2) = List.range' 0 os.length := List.zipIdx_map_snd 0 os
  rw [this]
  exact List.nodup_range'
theorem mem_onesAt {os : List Nat} {i : Nat} : i ∈ onesAt os ↔ os[i]? = some 1 := by
  unfold onesAt
  rw [List.mem_map]
  constructor
  · rintro ⟨q, hq, rfl⟩
    obtain ⟨h1, h2⟩ := List.mem_filter.mp hq
    have := List.mem_zipIdx_iff_getElem?.mp h1
    rw [of_decide_eq_true h2] at this
    exact this
  · intro h
    exact ⟨(1, i), List.mem_filter.mpr ⟨List.mem_zipIdx_iff_getElem?.mpr h, rfl⟩, rfl⟩
theorem onesAt_lt {os : List Nat} : ∀ i ∈ onesAt os, i < os.length := fun i hi => (List.getElem?_eq_some_iff.mp (mem_onesAt.mp hi)).1
theorem onesOf_lt (os : List Nat) : onesOf os < 2 ^ os.length := mk_lt (onesAt_nd os) onesAt_lt
def wrongs (E : List Nat) (o : Nat) : List Nat := E.filter fun e => par (e &&& o)
theorem elim_small {b : Nat} {L : Leads} {E ms : List Nat} (h : Elim b L E ms) : E.length ≤ ms.length := by have := h.cnt; omega
theorem p_System_init {b : Nat} {ms os : List Nat} (hb : b ≤ 63) (hl : ms.length ≤ 127) (hm : ∀ m ∈ ms, m < 2 ^ b) (ho : os.length = ms.length) :
    ∃ L E, d_System___init__ [sy0, iN b, .lst (ms.map iN), .lst (os.map iN)] = .ok [sysD b (onesOf os) L (wrongs E (onesOf os)) (frs b L)] (.fz .non) ∧ Elim b L E ms ∧ d_eliminated [.lst (ms.map iN)] = .ok [] (.tp [.own (ldD L), .own (.lst (E.map iN))]) := by
  obtain ⟨L, E, e1, he⟩ := p_eliminated (b := b) (ms := ms) hb (by omega) hm
  refine ⟨L, E, ?_, he, e1⟩
  have e2 := p_mask_of (b := os.length) (is := onesAt os) (by omega) (onesAt_nd os) onesAt_lt
  have e3 := lc_enum (g := storeN [5, 6]) (t := x_System___init___1) (f := dVar 5) (vs := [5, 6]) (ρ := [.own (sy1 (iN b)), .fz (iN b), .ln (.lst (ms.map iN)), .ln (.lst (os.map iN)), .un, .un, .un, .un, .un]) iN (fun _ o => decide (o = 1)) (fun i _ => iN i) (xs := os) (fun i o hi => by
    by_cases h : o = 1 <;> simp [x_System___init___1, h]) (by omega)
  have e4 : ((os.zipIdx.filter fun q => decide (q.1 = 1)).map fun q => iN q.2) = (onesAt os).map iN := by unfold onesAt; rw [List.map_map]; rfl
  rw [e4] at e3
  have ho2 : onesOf os < 2 ^ 127 := Nat.lt_of_lt_of_le (onesOf_lt os) (Nat.pow_le_pow_right (by decide) (by omega))
  have e5 := lc_filter (g := store 7) (t := x_System___init___2) (f := dVar 7) (vs := [7]) (ρ := [.own (sy3 (iN b) (iN (onesOf os)) (ldD L)), .fz (iN b), .ln (.lst (ms.map iN)), .ln (.lst (os.map iN)), .fz (.lst (E.map iN)), .un, .un, .un, .un]) iN (fun e => par (e &&& onesOf os)) iN (xs := E) (fun e h => by
    have ep := p_parity (n := e &&& onesOf os) (Nat.lt_of_le_of_lt Nat.and_le_right (Nat.lt_trans ho2 (by decide)))
    cases h : par (e &&& onesOf os) <;> simp [x_System___init___2, ep, h]) (by have := elim_small he; omega)
  have e6 := lc_filter (g := store 8) (t := x_System___init___3) (f := dVar 8) (vs := [8]) (ρ := [.own (sy4 (iN b) (iN (onesOf os)) (ldD L) (.lst ((wrongs E (onesOf os)).map iN))), .fz (iN b), .ln (.lst (ms.map iN)), .ln (.lst (os.map iN)), .fz (.lst (E.map iN)), .un, .un, .un, .un]) iN (isFr L) iN (xs := List.range b) (fun i h => by
    cases h : find L i <;> simp [x_System___init___3, isFr, h]) (by rw [List.length_range]; omega)
  have hb2 : b ≤ 1000000 := by omega
  show d_System___init__ _ = .ok [sy5 (iN b) (iN (onesOf os)) (ldD L) (.lst ((wrongs E (onesOf os)).map iN)) (.lst ((frs b L).map iN))] (.fz .non)
  unfold frs
  unfold wrongs at e6 ⊢
  unfold onesOf at *
  generalize mk (onesAt os) = o at *
  generalize (E.filter fun e => par (e &&& o)).map iN = W at *
  generalize (List.filter (isFr L) (List.range b)).map iN = F at *
  generalize (onesAt os).map iN = A at *
  generalize ms.map iN = M at *
  simp [d_System___init__, b_System___init__, e1, e2, e3, e5, e6, hb2]
/-- how many there are -/
def solN (b : Nat) (L : Leads) (wr : List Nat) : Nat := if wr = [] then 2 ^ (frs b L).length else 0
end PG
namespace DN
end DN
namespace PG
open DN Gf
open L2 (Key)
open PySem (PyData Str)
/-- valid arguments of a system -/
structure Sys (b : Nat) (ms os : List Nat) : Prop where
  b1 : 1 ≤ b
  b2 : b ≤ 60
  len : ms.length ≤ 100
  lt : ∀ m ∈ ms, m < 2 ^ b
  ol : os.length = ms.length
  o1 : ∀ o ∈ os, o ≤ 1
section
variable {b : Nat} {ms os : List Nat}
/-- what a system with these holds -/
structure Made (b : Nat) (ms os : List Nat) (L : Leads) (E : List Nat) : Prop where
  el : Elim b L E ms
  ini : d_System___init__ [sy0, iN b, .lst (ms.map iN), .lst (os.map iN)] = .ok [sysD b (onesOf os) L (wrongs E (onesOf os)) (frs b L)] (.fz .non)
  run : d_eliminated [.lst (ms.map iN)] = .ok [] (.tp [.own (ldD L), .own (.lst (E.map iN))])
theorem Sys.made (h : Sys b ms os) : ∃ L E, Made b ms os L E := by
  obtain ⟨L, E, e, he, hr⟩ := p_System_init (b := b) (by have := h.b2; omega) (by have := h.len; omega) h.lt h.ol
  exact ⟨L, E, he, e, hr⟩
theorem Made.sols {L : Leads} {E : List Nat} (k : Made b ms os L E) (hl : os.length = ms.length) : sols b ms (onesOf os) = if wrongs E (onesOf os) = [] then (List.range (2 ^ (frs b L).length)).map (wi b L (onesOf os)) else [] := by
  have ho : onesOf os < 2 ^ ms.length := by rw [← hl]; exact onesOf_lt os
  by_cases hw : wrongs E (onesOf os) = []
  · rw [if_pos hw]; exact sols_eq k.el ho hw
  · rw [if_neg hw]; exact sols_wrong k.el ho hw
theorem Made.cnt {L : Leads} {E : List Nat} (k : Made b ms os L E) (hl : os.length = ms.length) : solN b L (wrongs E (onesOf os)) = (PG.sols b ms (onesOf os)).length := by
  rw [k.sols hl]
  unfold solN
  split <;> simp
end
end PG
namespace PG
open DN Gf
open L2 (Key)
open PySem (PyData Str)
/-- the first places of the values that would be at a place -/
def crP (b : Nat) (m : Mp) (π : List Nat) (n x : Nat) : List Nat := (List.range (2 ^ b)).filter fun y => decide (wkA m (mk (π.take n)) y = x)
end PG
namespace PG
open DN Gf
open L2 (Key)
open PySem (PyData Str)
def ssetN (ns : List Nat) : List Nat := (sset (ns.map fun n : Nat => (n : Int))).map Int.toNat
theorem ssetN_eq (ns : List Nat) : sset (ns.map fun n : Nat => (n : Int)) = (ssetN ns).map fun n : Nat => (n : Int) := by
  unfold ssetN
  rw [List.map_map]
  refine (List.map_id _).symm.trans (List.map_congr_left fun k hk => ?_)
  have := mem_sset.mp hk
  obtain ⟨n, _, rfl⟩ := List.mem_map.mp this
  simp
theorem mem_ssetN {ns : List Nat} {x : Nat} : x ∈ ssetN ns ↔ x ∈ ns := by
  have h : (x : Int) ∈ sset (ns.map fun n : Nat => (n : Int)) ↔ (x : Int) ∈ ns.map fun n : Nat => (n : Int) := mem_sset
  rw [ssetN_eq] at h
  have k : ∀ l : List Nat, (x : Int) ∈ (l.map fun n : Nat => (n : Int)) ↔ x ∈ l := fun l => by
    rw [List.mem_map]
    exact ⟨fun ⟨a, ha, e⟩ => (by have : a = x := by omega
                                 exact this ▸ ha), fun h => ⟨x, h, rfl⟩⟩
  rw [k, k] at h
  exact h
theorem ssetN_lt (ns : List Nat) : (ssetN ns).Pairwise (· < ·) := by
  have := sset_lt (ns.map fun n : Nat => (n : Int))
  rw [ssetN_eq] at this
  exact (List.pairwise_map.mp this).imp fun h => by omega
theorem gSortSetB {ns : List Nat} (hl : ns.length ≤ 4000) (hb : ∀ n ∈ ns, n < 63) : gSortSet (.lst (ns.map iN)) = some (.own (.lst ((ssetN ns).map iN))) := by
  unfold gSortSet
  have e : intsD (ns.map iN) = some (ns.map fun n : Nat => (n : Int)) := by
    clear hl hb
    induction ns with
    | nil => rfl
    | cons n ns ih => rw [List.map_cons, intsD, ih]; rfl
  have h2 : (ssetN ns).length ≤ 63 := by
    have := nodup_le (n := 63) ((ssetN_lt ns).imp fun h => Nat.ne_of_lt h) fun x hx => hb x (mem_ssetN.mp hx)
    exact this
  simp only [e, Option.bind_some]
  rw [List.length_map, ssetN_eq, if_pos ⟨by rw [List.length_map]; omega, hl⟩, List.map_map]
  rfl
theorem frs_cnt {b : Nat} {L : Leads} (nd : (L.map (·.1)).Nodup) (lt : ∀ p ∈ L, p.1 < b) : (frs b L).length + L.length = b := by
  have h1 : (List.range b).length = ((List.range b).filter (isFr L)).length + ((List.range b).filter fun i => !isFr L i).length := by
    rw [← List.countP_eq_length_filter, ← List.countP_eq_length_filter]
    have := List.length_eq_countP_add_countP (isFr L) (l := List.range b)
    rw [this]
    congr 1
    refine List.countP_congr fun i _ => ?_
    simp
  have h2 : ((List.range b).filter fun i => !isFr L i).length = (L.map (·.1)).length := by
    refine List.Perm.length_eq ((List.perm_ext_iff_of_nodup (List.nodup_range.filter _) nd).mpr fun i => ?_)
    rw [List.mem_filter, List.mem_range]
    unfold isFr
    constructor
    · rintro ⟨_, h⟩
      cases hf : find L i with
      | none => rw [hf] at h; simp at h
      | some q => exact List.mem_map.mpr ⟨_, find_mem hf, rfl⟩
    · intro h
      obtain ⟨p, hp, rfl⟩ := List.mem_map.mp h
      refine ⟨lt p hp, ?_⟩
      obtain ⟨q, hq⟩ := find_some h
      rw [hq]
      rfl
  rw [List.length_range] at h1
  rw [List.length_map] at h2
  unfold frs
  omega
section
variable {b : Nat} {m : Mp} {π : List Nat} {n x : Nat}
/-- the rows of some bits, cut down to them -/
def cutR (rs is : List Nat) : List Nat := is.map fun i => rs.getD i 0 &&& mk is
end
end PG
namespace PG
open DN Gf
open L2 (Key)
open PySem (PyData Str)
/-- leads and the single bits that lead nothing make all -/
theorem units_span {b : Nat} {L : Leads} {ms : List Nat} (h : Elim0 b L ms) : ∀ k i, b - i = k → i < b → Span (ms ++ (frs b L).map fun i => 2 ^ i) (2 ^ i) := by
  intro k
  induction k using Nat.strongRecOn with
  | _ k ih =>
    intro i hk hi
    cases hf : find L i with
    | none =>
      refine Span.mem (List.mem_append_right _ (List.mem_map.mpr ⟨i, mem_frs.mpr ⟨hi, hf⟩, rfl⟩))
    | some q =>
      have hm := find_mem hf
      obtain ⟨t1, t2⟩ := h.low _ hm
      have hl := h.lm _ hm
      simp only at t1 t2 hl
      -- the lead without its lowest bit
      have hs : Span ms q.1 := (h.bas.span _).mp (Span.mem (List.mem_map.mpr ⟨(i, q.1), List.mem_map.mpr ⟨_, hm, rfl⟩, rfl⟩))
      have key : ∀ z, z < 2 ^ b → (∀ j, j ≤ i → z.testBit j = false) → Span (ms ++ (frs b L).map fun i => 2 ^ i) z := by
        intro z hz hzb
        have e : mk (bitsN z) = z := mk_bits z
        rw [← e]
        have : ∀ (l : List Nat), (∀ j ∈ l, i < j ∧ j < b) → Span (ms ++ (frs b L).map fun i => 2 ^ i) (mk l) := by
          intro l
          induction l with
          | nil => intro _; exact Span.zero _
          | cons j l ihl =>
            intro hj
            rw [mk_cons]
            have := hj j List.mem_cons_self
            exact (ih (b - j) (by omega) j rfl this.2).xor (ihl fun x hx => hj x (List.mem_cons_of_mem _ hx))
        refine this _ fun j hj => ?_
        have hjb := mem_bitsN.mp hj
        refine ⟨?_, ?_⟩
        · rcases Nat.lt_or_ge i j with c | c
          · exact c
          · rw [hzb j c] at hjb; cases hjb
        · rcases Nat.lt_or_ge j b with c | c
          · exact c
          · rw [Nat.testBit_lt_two_pow (Nat.lt_of_lt_of_le hz (Nat.pow_le_pow_right (by decide) c))] at hjb; cases hjb
      have hz := key (q.1 ^^^ 2 ^ i) (Nat.xor_lt_two_pow hl (Nat.pow_lt_pow_right (by decide) hi)) fun j hj => by
        rw [Nat.testBit_xor, Nat.testBit_two_pow]
        rcases Nat.lt_or_eq_of_le hj with c | rfl
        · rw [t2 j c]; simp; omega
        · rw [t1]; simp
      have := (hs.of_mem (ns := ms ++ (frs b L).map fun i => 2 ^ i) fun m hm => List.mem_append_left _ hm).xor hz
      rwa [xor_x] at this
theorem p_completed {b : Nat} {xs : List Nat} (hb : b ≤ 60) (hx : ∀ x ∈ xs, x < 2 ^ b) (hr : rk xs = xs.length) : ∃ us : List Nat, d_completed [iN b, .lst (xs.map iN)] = .ok [] (.own (.lst ((xs ++ us).map iN))) ∧ Map b (xs ++ us, 0) := by
  have hlb : xs.length ≤ b := by
    obtain ⟨S, h1, h2⟩ := lists_ex xs
    have := len_sub (T := List.range (2 ^ b)) h1.1 fun y hy => List.mem_range.mpr (((h1.2 y).mp hy).bound hx)
    rw [h2, hr, List.length_range] at this
    exact (Nat.pow_le_pow_iff_right (by decide)).mp this
  obtain ⟨L, E, e1, h⟩ := p_eliminated (b := b) (ms := xs) (by omega) (by omega) hx
  have hc := frs_cnt h.nd h.lt
  have hk := h.rk
  have e2 := lc_filter (g := store 3) (t := x_completed_2) (f := x_completed_1) (vs := [3]) (ρ := [.ln (iN b), .ln (.lst (xs.map iN)), .fz (ldD L), .un]) iN (isFr L) (fun i => iN (2 ^ i)) (xs := List.range b) (fun i hi => by
    have hi := List.mem_range.mp hi
    have h1 : i ≤ 100000 := by omega
    cases hf : find L i <;> simp [x_completed_1, x_completed_2, isFr, hf, h1]) (by rw [List.length_range]; omega)
  have e3 : ((List.range b).filter (isFr L)).map (fun i => iN (2 ^ i)) = ((frs b L).map fun i => 2 ^ i).map iN := by rw [List.map_map]; rfl
  rw [e3] at e2
  refine ⟨(frs b L).map fun i => 2 ^ i, ?_, ⟨?_, fun r hr => ?_, Nat.two_pow_pos b, fun i hi => units_span h.to0 _ i rfl hi⟩⟩
  · have hb2 : b ≤ 1000000 := by omega
    have hl2 : (xs.map iN).length + (((frs b L).map fun i => 2 ^ i).map iN).length ≤ 100000 := by simp; omega
    have ga := gAdd_lst hl2
    rw [← List.map_append] at ga
    generalize (xs ++ (frs b L).map fun i => 2 ^ i).map iN = Z at *
    generalize ((frs b L).map fun i => 2 ^ i).map iN = U at *
    generalize xs.map iN = X at *
    simp [d_completed, b_completed, e1, e2, hb2, ga]
  · show (xs ++ _).length = b
    rw [List.length_append, List.length_map]; omega
  · have hr : r ∈ xs ++ (frs b L).map fun i => 2 ^ i := hr
    rcases List.mem_append.mp hr with hr | hr
    · exact hx r hr
    · obtain ⟨i, hi, rfl⟩ := List.mem_map.mp hr
      exact Nat.pow_lt_pow_right (by decide) (mem_frs.mp hi).1
theorem sel_app {xs us : List Nat} {p : Nat} (h : p < 2 ^ xs.length) : sel (xs ++ us) p = sel xs p := by
  refine snocI (P := fun us => sel (xs ++ us) p = sel xs p) (by rw [List.append_nil]) (fun us u ih => ?_) us
  rw [← List.append_assoc, sel_small (Nat.lt_of_lt_of_le h (Nat.pow_le_pow_right (by decide) (by simp))), ih]
theorem SpanP.sub {L M : List (Nat × Nat)} {x y : Nat} (h : ∀ m ∈ L, SpanP M m.1 m.2) (s : SpanP L x y) : SpanP M x y := by
  induction s with
  | nil => exact .zero M
  | out _ ih => exact ih fun m hm => h m (List.mem_cons_of_mem _ hm)
  | inn _ ih => exact (h _ List.mem_cons_self).xor (ih fun m hm => h m (List.mem_cons_of_mem _ hm))
theorem mark_xor {b x y : Nat} (hx : x < 2 ^ b) (hy : y < 2 ^ b) : (x ||| 2 ^ b) ^^^ (y ||| 2 ^ b) = x ^^^ y := by
  rw [or_markG hx, or_markG hy, xor_4, Nat.xor_self, Nat.xor_zero]
/-- begins and ends that were kept -/
structure Kpt (b : Nat) (ps : List (Nat × Nat)) (q0 : Nat × Nat) (L : Leads) (B : List (Nat × Nat)) : Prop where
  el : Elim0 b L (B.map (·.1))
  rk : rk (B.map (·.1)) = B.length
  sp : ∀ p ∈ B, SpanP (mkP b ps) p.1 p.2
  lt : ∀ p ∈ B, p.1 < 2 ^ b ∧ p.2 < 2 ^ b
/-- the mapping that is made of them -/
theorem kpt_map {b : Nat} {ps : List (Nat × Nat)} {q0 : Nat × Nat} {L : Leads} {B : List (Nat × Nat)} {us vs : List Nat} {n : Mp} (hw : Ways b ps) (hf : Fn (mkP b ps)) (h0 : q0 ∈ ps) (h : Kpt b ps q0 L B) (hd : ∀ q ∈ ps, Span (B.map (·.1)) (q.1 ^^^ q0.1))
    (k1 : Map b (B.map (·.1) ++ us, 0)) (k2 : Map b (B.map (·.2) ++ vs, 0)) (hB : Back b (colsOf b (B.map (·.1) ++ us), 0) n) (m1 : Map b (colsOf b (B.map (·.1) ++ us), 0)) (m2 : Map b (colsOf b (B.map (·.2) ++ vs), 0)) :
    Map b ((behind n (colsOf b (B.map (·.2) ++ vs), 0)).1, q0.2 ^^^ vec (behind n (colsOf b (B.map (·.2) ++ vs), 0)).1 q0.1) ∧ Agr ((behind n (colsOf b (B.map (·.2) ++ vs), 0)).1, q0.2 ^^^ vec (behind n (colsOf b (B.map (·.2) ++ vs), 0)).1 q0.1) ps := by
  have mb := hB.map.behind m2
  have hlin : ∀ p, p < 2 ^ B.length → vec (behind n (colsOf b (B.map (·.2) ++ vs), 0)).1 (sel (B.map (·.1)) p) = sel (B.map (·.2)) p := by
    intro p hp
    have hl1 : (B.map (·.1)).length = B.length := List.length_map _
    have hl2 : (B.map (·.2)).length = B.length := List.length_map _
    have hlb : B.length ≤ b := by
      have := k1.len
      simp at this
      omega
    have hpb : p < 2 ^ b := Nat.lt_of_lt_of_le hp (Nat.pow_le_pow_right (by decide) hlb)
    have e1 : app (colsOf b (B.map (·.1) ++ us), 0) p = sel (B.map (·.1)) p := by
      unfold app
      rw [vec_colsOf k1.row p, sel_app (by rw [hl1]; exact hp), Nat.zero_xor]
    have e2 : app (colsOf b (B.map (·.2) ++ vs), 0) p = sel (B.map (·.2)) p := by
      unfold app
      rw [vec_colsOf k2.row p, sel_app (by rw [hl2]; exact hp), Nat.zero_xor]
    have e3 := hB.back p hpb
    rw [e1] at e3
    have e4 := hB.back 0 (Nat.two_pow_pos b)
    have e5 : app (colsOf b (B.map (·.1) ++ us), 0) 0 = 0 := by unfold app; rw [vec_zero]; exact Nat.zero_xor 0
    rw [e5] at e4
    have hn2 : n.2 = 0 := by
      unfold app at e4
      rwa [vec_zero, Nat.xor_zero] at e4
    have e6 : vec n.1 (sel (B.map (·.1)) p) = p := by
      unfold app at e3
      rwa [hn2, Nat.zero_xor] at e3
    show vec ((colsOf b (B.map (·.2) ++ vs)).map (sel n.1)) _ = _
    rw [vec_sel, e6]
    unfold app at e2
    rwa [Nat.zero_xor] at e2
  have mbl := mb.len
  have mbr := mb.row
  have mba := mb.all
  clear mb
  generalize (behind n (colsOf b (B.map (·.2) ++ vs), 0)).1 = rows at *
  have hv : ∀ x, vec rows x < 2 ^ b := fun x => by rw [← mbl]; exact vec_lt _ _
  refine ⟨⟨mbl, mbr, Nat.xor_lt_two_pow (hw q0 h0).2 (hv _), mba⟩, fun q hq => ?_⟩
  obtain ⟨p, hp, hpe⟩ := span_sel (hd q hq)
  rw [List.length_map] at hp
  have e := hlin p hp
  rw [hpe] at e
  -- the sum of the ends that goes with it
  have s1 : SpanP (mkP b ps) (q.1 ^^^ q0.1) (sel (B.map (·.2)) p) := by
    have := sel_spanP B p
    rw [hpe] at this
    exact SpanP.sub h.sp this
  have s2 : SpanP (mkP b ps) (q.1 ^^^ q0.1) (q.2 ^^^ q0.2) := by
    have a1 : SpanP (mkP b ps) (q.1 ||| 2 ^ b) (q.2 ||| 2 ^ b) := SpanP.mem (m := (q.1 ||| 2 ^ b, q.2 ||| 2 ^ b)) (List.mem_map.mpr ⟨q, hq, rfl⟩)
    have a2 : SpanP (mkP b ps) (q0.1 ||| 2 ^ b) (q0.2 ||| 2 ^ b) := SpanP.mem (m := (q0.1 ||| 2 ^ b, q0.2 ||| 2 ^ b)) (List.mem_map.mpr ⟨q0, h0, rfl⟩)
    exact (a1.xor a2).cast (mark_xor (hw q hq).1 (hw q0 h0).1) (mark_xor (hw q hq).2 (hw q0 h0).2)
  have e2 := hf.uniq s1 s2
  unfold app
  simp only
  rw [vec_xor, e2] at e
  rw [Nat.xor_assoc, Nat.xor_comm (vec rows q0.1), e, Nat.xor_comm q.2, xor_x]
end PG
namespace PG
open DN Gf
open L2 (Key)
open PySem (PyData Str)
section
variable {b : Nat} {ps : List (Nat × Nat)} {q0 : Nat × Nat}
theorem Kpt.nil : Kpt b ps q0 [] [] := ⟨.nil, rfl, fun p hp => (nomatch hp), fun p hp => (nomatch hp)⟩
theorem Kpt.len {L : Leads} {B : List (Nat × Nat)} (h : Kpt b ps q0 L B) : B.length ≤ b := by
  have h1 := h.el.len
  have h2 := h.el.rk
  rw [h.rk] at h2
  omega
theorem mapw_step {L : Leads} {B : List (Nat × Nat)} {q : Nat × Nat} {y9 : Sl} (hb : b ≤ 60) (hw : Ways b ps) (h0 : q0 ∈ ps) (hq : q ∈ ps) (h : Kpt b ps q0 L B) :
    ∃ (L' : Leads) (B' : List (Nat × Nat)) (z9 : Sl), x_mapping_with_2 [.ln (iN b), .ln (.lst (ps.map tN)), .fz (iN q0.1), .fz (iN q0.2), .own (.lst ((B.map (·.1)).map iN)), .own (.lst ((B.map (·.2)).map iN)), .own (ldD L), .fz (iN q.1), .fz (iN q.2), y9, .un, .un, .un, .un] = .ok [.ln (iN b), .ln (.lst (ps.map tN)), .fz (iN q0.1), .fz (iN q0.2), .own (.lst ((B'.map (·.1)).map iN)), .own (.lst ((B'.map (·.2)).map iN)), .own (ldD L'), .fz (iN q.1), .fz (iN q.2), z9, .un, .un, .un, .un] .nx ∧ Kpt b ps q0 L' B' ∧ (∀ p ∈ B, p ∈ B') ∧ Span (B'.map (·.1)) (q.1 ^^^ q0.1) := by
  have hL := h.el.len
  have hBl := h.len
  have pr := p_reduced (L := L) (m := q.1 ^^^ q0.1) (p := 0) (by omega)
  have hx := Nat.xor_lt_two_pow (hw q hq).1 (hw q0 h0).1
  have hy := Nat.xor_lt_two_pow (hw q hq).2 (hw q0 h0).2
  have hs2 : SpanP (mkP b ps) (q.1 ^^^ q0.1) (q.2 ^^^ q0.2) := by
    have a1 : SpanP (mkP b ps) (q.1 ||| 2 ^ b) (q.2 ||| 2 ^ b) := SpanP.mem (m := (q.1 ||| 2 ^ b, q.2 ||| 2 ^ b)) (List.mem_map.mpr ⟨q, hq, rfl⟩)
    have a2 : SpanP (mkP b ps) (q0.1 ||| 2 ^ b) (q0.2 ||| 2 ^ b) := SpanP.mem (m := (q0.1 ||| 2 ^ b, q0.2 ||| 2 ^ b)) (List.mem_map.mpr ⟨q0, h0, rfl⟩)
    exact (a1.xor a2).cast (mark_xor (hw q hq).1 (hw q0 h0).1) (mark_xor (hw q hq).2 (hw q0 h0).2)
  by_cases hz : (red L (q.1 ^^^ q0.1, 0)).1 = 0
  · refine ⟨L, B, .fz (iN 0), ?_, h, fun p hp => hp, (h.el.left _ 0).mp hz⟩
    rw [hz] at pr
    generalize (B.map (·.1)).map iN = X at *
    generalize (B.map (·.2)).map iN = Y at *
    generalize ps.map tN = T at *
    generalize ldD L = D1 at *
    simp [x_mapping_with_2, pr]
  · have hp := Nat.pos_of_ne_zero hz
    obtain ⟨k1, k2⟩ := h.el.more 0 0 hx hz
    have hout : ¬ Span (B.map (·.1)) (q.1 ^^^ q0.1) := fun s => hz ((h.el.left _ 0).mpr s)
    have eg := put_ldD (x := (red L (q.1 ^^^ q0.1, 0)).1) (p := 0) k2 (by omega)
    refine ⟨L ++ [(lsb (red L (q.1 ^^^ q0.1, 0)).1, (red L (q.1 ^^^ q0.1, 0)).1, 0)], B ++ [(q.1 ^^^ q0.1, q.2 ^^^ q0.2)], .fz (iN (red L (q.1 ^^^ q0.1, 0)).1), ?_, ⟨?_, ?_, ?_, ?_⟩, fun p hp => List.mem_append_left _ hp, ?_⟩
    rotate_left
    · rw [List.map_append]; exact k1
    · rw [List.map_append, List.map_singleton, rk_snoc_out hout, h.rk, List.length_append]; rfl
    · intro p hp
      rcases List.mem_append.mp hp with hp | hp
      · exact h.sp p hp
      · rw [List.mem_singleton.mp hp]; exact hs2
    · intro p hp
      rcases List.mem_append.mp hp with hp | hp
      · exact h.lt p hp
      · rw [List.mem_singleton.mp hp]; exact ⟨hx, hy⟩
    · exact Span.mem (by rw [List.map_append]; exact List.mem_append_right _ (List.mem_singleton_self _))
    · have l1 : ((B.map (·.1)).map iN).length ≤ 100000 := by simp; omega
      have l2 : ((B.map (·.2)).map iN).length ≤ 100000 := by simp; omega
      simp only [List.map_append, List.map_singleton]
      generalize (B.map (·.1)).map iN = X at *
      generalize (B.map (·.2)).map iN = Y at *
      generalize ps.map tN = T at *
      generalize (red L (q.1 ^^^ q0.1, 0)).1 = r at *
      generalize ldD (L ++ [(lsb r, r, 0)]) = D2 at *
      generalize ldD L = D1 at *
      simp [x_mapping_with_2, pr, hz, hp, eg, l1, l2]
/-- the mapping that is told -/
theorem p_mapping_with {b : Nat} {ps : List (Nat × Nat)} (h1 : 1 ≤ b) (hb : b ≤ 60) (hl : ps.length ≤ 100) (hw : Ways b ps) (hf : Fn (mkP b ps)) :
    ∃ (M : Mp) (r : R), d_mapping_with [iN b, .lst (ps.map tN)] = .ok [] r ∧ Map b M ∧ Agr M ps ∧ (r = .tp [.own (.lst (M.1.map iN)), .fz (iN M.2)] ∨ r = .tp [.fz (.lst (M.1.map iN)), .fz (iN M.2)]) := by
  cases ps with
  | nil =>
    refine ⟨idM b, .tp [.own (.lst ((idM b).1.map iN)), .fz (iN 0)], ?_, Map.id b, (fun q hq => by cases hq), .inl rfl⟩
    have e2 := lc_map (g := store 13) (t := dYes) (f := x_mapping_with_1) (vs := [13]) (ρ := [.ln (iN b), .ln (.lst []), .un, .un, .un, .un, .un, .un, .un, .un, .un, .un, .un, .un]) iN (fun i => iN (2 ^ i)) (xs := List.range b) (fun i hi => by
      have hi := List.mem_range.mp hi
      have h1 : i ≤ 100000 := by omega
      simp [x_mapping_with_1, h1]) (by simp; omega)
    have hb2 : b ≤ 1000000 := by omega
    simp [d_mapping_with, b_mapping_with, hb2, e2, idM]
  | cons q0 qs =>
    have h0 : q0 ∈ q0 :: qs := List.mem_cons_self
    obtain ⟨ρ', e, L, B, y7, y8, y9, rfl, hk, hd⟩ := loop_l (g := storeN [7, 8]) (b := x_mapping_with_2) tN (fun d ρ => ∃ (L : Leads) (B : List (Nat × Nat)) (y7 y8 y9 : Sl), ρ = [.ln (iN b), .ln (.lst ((q0 :: qs).map tN)), .fz (iN q0.1), .fz (iN q0.2), .own (.lst ((B.map (·.1)).map iN)), .own (.lst ((B.map (·.2)).map iN)), .own (ldD L), y7, y8, y9, .un, .un, .un, .un] ∧ Kpt b (q0 :: qs) q0 L B ∧ ∀ q ∈ d, Span (B.map (·.1)) (q.1 ^^^ q0.1)) (xs := q0 :: qs) (ρ := [.ln (iN b), .ln (.lst ((q0 :: qs).map tN)), .fz (iN q0.1), .fz (iN q0.2), .own (.lst (([] : List Nat).map iN)), .own (.lst (([] : List Nat).map iN)), .own (ldD []), .un, .un, .un, .un, .un, .un, .un]) ⟨[], [], _, _, _, rfl, .nil, (fun q hq => by cases hq)⟩ (by
      rintro d q t ρ hx ⟨L, B, y7, y8, y9, rfl, hk, hd⟩
      have hq : q ∈ q0 :: qs := by rw [hx]; simp
      obtain ⟨L', B', z9, e, k1, k2, k3⟩ := mapw_step (y9 := y9) hb hw h0 hq hk
      refine Goes.of (ρ := [.ln (iN b), .ln (.lst ((q0 :: qs).map tN)), .fz (iN q0.1), .fz (iN q0.2), .own (.lst ((B'.map (·.1)).map iN)), .own (.lst ((B'.map (·.2)).map iN)), .own (ldD L'), .fz (iN q.1), .fz (iN q.2), z9, .un, .un, .un, .un]) ?_ ⟨L', B', _, _, _, rfl, k1, fun p hp => ?_⟩
      · generalize (q0 :: qs).map tN = T at *
        generalize (B.map (·.1)).map iN = X at *
        generalize (B.map (·.2)).map iN = Y at *
        generalize (B'.map (·.1)).map iN = X' at *
        generalize (B'.map (·.2)).map iN = Y' at *
        generalize ldD L = D1 at *
        generalize ldD L' = D2 at *
        simp [tN, e]
      · rcases List.mem_append.mp hp with hp | hp
        · exact (hd p hp).of_mem fun m hm => by
            obtain ⟨a, ha, rfl⟩ := List.mem_map.mp hm
            exact List.mem_map.mpr ⟨a, k2 a ha, rfl⟩
        · rw [List.mem_singleton.mp hp]; exact k3)
    have hfB : Fn B := fun x y s => hf x y (SpanP.sub hk.sp s)
    have hr2 : rk (B.map (·.2)) = (B.map (·.2)).length := by rw [← Fn.rks B hfB, hk.rk, List.length_map]
    have hr1 : rk (B.map (·.1)) = (B.map (·.1)).length := by rw [hk.rk, List.length_map]
    obtain ⟨us, e1, m1⟩ := p_completed hb (fun x hx => by
      obtain ⟨p, hp, rfl⟩ := List.mem_map.mp hx
      exact (hk.lt p hp).1) hr1
    obtain ⟨vs, e2, m2⟩ := p_completed hb (fun x hx => by
      obtain ⟨p, hp, rfl⟩ := List.mem_map.mp hx
      exact (hk.lt p hp).2) hr2
    have e3 := p_columns_of (b := b) (rs := B.map (·.1) ++ us) (by omega) m1.len
    have e4 := p_columns_of (b := b) (rs := B.map (·.2) ++ vs) (by omega) m2.len
    have c1 : Map b (colsOf b (B.map (·.1) ++ us), 0) := Map.of_ind (colsOf_len _ _) (colsOf_lt m1.len) (Nat.two_pow_pos b) (PG.Map.cols m1).ind
    have c2 : Map b (colsOf b (B.map (·.2) ++ vs), 0) := Map.of_ind (colsOf_len _ _) (colsOf_lt m2.len) (Nat.two_pow_pos b) (PG.Map.cols m2).ind
    obtain ⟨n, e5, hB⟩ := p_back hb c1
    have e6 := p_behind (by omega) hB.map c2
    obtain ⟨f1, f2⟩ := kpt_map hw hf h0 hk hd m1 m2 hB c1 c2
    have hb2 := hB.map.behind c2
    have e7 := p_moved (rs := (behind n (colsOf b (B.map (·.2) ++ vs), 0)).1) (o := 0) (x := q0.1) (by rw [hb2.len]; omega) (fun r hr => two_lt (hb2.row r hr) (by omega))
    have e8 : app ((behind n (colsOf b (B.map (·.2) ++ vs), 0)).1, 0) q0.1 = vec (behind n (colsOf b (B.map (·.2) ++ vs), 0)).1 q0.1 := Nat.zero_xor _
    rw [e8] at e7
    refine ⟨_, _, ?_, f1, f2, .inr rfl⟩
    clear f1 f2 hb2 hB c1 c2 m1 m2 hk hd hfB hr1 hr2
    have e : dLoop (storeN [7, 8]) x_mapping_with_2 (fzs ((q0 :: qs).map tN)) [.ln (iN b), .ln (.lst ((q0 :: qs).map tN)), .fz (iN q0.1), .fz (iN q0.2), .own (.lst []), .own (.lst []), .own (.dct []), .un, .un, .un, .un, .un, .un, .un] = _ := e
    have hT : (q0 :: qs).map tN = tN q0 :: qs.map tN := rfl
    rw [hT] at e ⊢
    generalize vec (behind n (colsOf b (B.map (·.2) ++ vs), 0)).1 q0.1 = z at *
    generalize (behind n (colsOf b (B.map (·.2) ++ vs), 0)).1.map iN = RW at *
    generalize (behind n (colsOf b (B.map (·.2) ++ vs), 0)).2 = o at *
    generalize (colsOf b (B.map (·.1) ++ us)).map iN = C1 at *
    generalize (colsOf b (B.map (·.2) ++ vs)).map iN = C2 at *
    generalize (B.map (·.1) ++ us).map iN = A1 at *
    generalize (B.map (·.2) ++ vs).map iN = A2 at *
    generalize (B.map (·.1)).map iN = X at *
    generalize (B.map (·.2)).map iN = Y at *
    generalize n.1.map iN = N1 at *
    generalize ldD L = D1 at *
    have hne : gEq2 (.lst ((q0 :: qs).map tN)) (.lst (([] : List (Nat × Nat)).map tN)) = some (.fz (.bl (decide (q0 :: qs = [])))) := gEq2_of (eqD_enc (by decide) (q0 :: qs) []) (gEqS_lst _ _)
    rw [hT, decide_eq_false (by simp)] at hne
    rw [List.map_nil] at hne
    generalize qs.map tN = T at *
    obtain ⟨u, v⟩ := q0
    simp only [tN] at *
    simp [d_mapping_with, b_mapping_with, hne, e, e1, e2, e3, e4, e5, e6, e7]
end
end PG
namespace PG
open DN Gf
open L2 (Key)
open PySem (PyData Str)
/-- a told mapping, as a function returns it -/
def MpR (M : Mp) (r : R) : Prop := r = .tp [.own (.lst (M.1.map iN)), .fz (iN M.2)] ∨ r = .tp [.fz (.lst (M.1.map iN)), .fz (iN M.2)]
section
variable {b : Nat} {ps : List (Nat × Nat)}
theorem p_some_mapping (h1 : 1 ≤ b) (hb : b ≤ 60) (hl : ps.length ≤ 100) (hw : Ways b ps) (hf : Fn (mkP b ps)) : ∃ (M : Mp) (r : R), d_some_mapping [iN b, .lst (ps.map tN)] = .ok [] r ∧ Map b M ∧ Agr M ps ∧ MpR M r := by
  have e0 := p_need_both_k52 h1 hb hl hw
  obtain ⟨M, r, e1, k1, k2, k3⟩ := p_mapping_with h1 hb hl hw hf
  rcases p_clash_ofS hb hl hw with ⟨_, e⟩ | ⟨f, _⟩
  · refine ⟨M, r, ?_, k1, k2, k3⟩
    generalize ps.map tN = A at *
    rcases k3 with rfl | rfl
    · simp [d_some_mapping, b_some_mapping, e0, e, e1]
    · simp [d_some_mapping, b_some_mapping, e0, e, e1]
  · exact absurd hf f
theorem p_no_mapping (h1 : 1 ≤ b) (hb : b ≤ 60) (hl : ps.length ≤ 100) (hw : Ways b ps) (hf : ¬ Fn (mkP b ps)) : d_some_mapping [iN b, .lst (ps.map tN)] = .ok [] (.fz .non) := by
  have e0 := p_need_both_k52 h1 hb hl hw
  rcases p_clash_ofS hb hl hw with ⟨f, e⟩ | ⟨_, ns, e, _⟩
  · exact absurd f hf
  · generalize ps.map tN = A at *
    generalize ns.map iN = W at *
    simp [d_some_mapping, b_some_mapping, e0, e, isNon]
theorem p_agrees {M : Mp} (h1 : 1 ≤ b) (hb : b ≤ 60) (h : Map b M) (hl : ps.length ≤ 100) (hw : Ways b ps) : d_agrees [.tup [.lst (M.1.map iN), iN M.2], .lst (ps.map tN)] = .ok [] (.fz (.bl (ps.all fun q => app M q.1 == q.2))) := by
  have e1 := p_need_mapping h1 hb h
  have hl2 := h.len
  have e2 := p_need_ways (b := b) (by omega) hl hw
  have e3 := lc_map (g := storeN [2, 3]) (t := dYes) (f := x_agrees_1) (vs := [2, 3]) (ρ := [.fz (.tup [.lst (M.1.map iN), iN M.2]), .ln (.lst (ps.map tN)), .un, .un]) tN (fun q => D.bl (app M q.1 == q.2)) (xs := ps) (fun q hq => by
    have em := p_moved (rs := M.1) (o := M.2) (x := q.1) (by omega) (fun r hr => two_lt (h.row r hr) (by omega))
    generalize ps.map tN = T at *
    have e : (app (M.1, M.2) q.1) = app M q.1 := rfl
    rw [e] at em
    by_cases c : app M q.1 = q.2
    · simp [x_agrees_1, tN, em, c]
    · simp [x_agrees_1, tN, em, c]) (by omega)
  have hml : (M.1.map iN).length = b := by rw [List.length_map]; exact hl2
  have e4 : gAll [.lst (ps.map fun q => D.bl (app M q.1 == q.2))] = some (.fz (.bl (ps.all fun q => app M q.1 == q.2))) := by
    have := gAll_N (ps.map fun q => app M q.1 == q.2)
    rw [List.map_map, List.all_map] at this
    exact this
  have hb6 : b ≤ 100000 := by omega
  generalize ps.map (fun q => D.bl (app M q.1 == q.2)) = G at *
  generalize ps.map tN = T at *
  generalize M.1.map iN = X at *
  simp [d_agrees, b_agrees, e1, e2, e3, e4, hml, hb6]
theorem agr_all {M : Mp} : (ps.all fun q => app M q.1 == q.2) = true ↔ Agr M ps := by
  rw [List.all_eq_true]
  exact ⟨fun h q hq => by simpa using h q hq, fun h q hq => by simpa using h q hq⟩
theorem p_can_end {x y : Nat} (h1 : 1 ≤ b) (hb : b ≤ 60) (hl : ps.length ≤ 99) (hw : Ways b ps) (hf : Fn (mkP b ps)) (hx : x < 2 ^ b) (hy : y < 2 ^ b) :
    (Fn (mkP b (ps ++ [(x, y)])) ∧ d_can_end [iN b, .lst (ps.map tN), iN x, iN y] = .ok [] (.fz (.bl true))) ∨ (¬ Fn (mkP b (ps ++ [(x, y)])) ∧ d_can_end [iN b, .lst (ps.map tN), iN x, iN y] = .ok [] (.fz (.bl false))) := by
  have e0 := p_need_both_k52 h1 hb (show ps.length ≤ 100 by omega) hw
  have e1 := p_need_place (b := b) (m := x) (by omega) hx
  have e2 := p_need_place (b := b) (m := y) (by omega) hy
  have e3 := p_need_agreeing hb (show ps.length ≤ 100 by omega) hw hf
  have hw2 : Ways b (ps ++ [(x, y)]) := fun q hq => by
    rcases List.mem_append.mp hq with hq | hq
    · exact hw q hq
    · rw [List.mem_singleton.mp hq]; exact ⟨hx, hy⟩
  have ha : (ps ++ [(x, y)]).map tN = ps.map tN ++ [.tup [iN x, iN y]] := by rw [List.map_append]; rfl
  have hl6 : (ps.map tN).length + 1 ≤ 100000 := by rw [List.length_map]; omega
  have hes : ∀ A : List D, escs [.ln (iN b), .ln (.lst A), .fz (iN x), .fz (iN y)] (A.map R.fz ++ [.tp [.bor 2, .bor 3]]) = .ok [.ln (iN b), .ln (.lst A), .fz (iN x), .fz (iN y)] (A ++ [.tup [iN x, iN y]]) := fun A => by
    rw [escs_app]; simp
  rcases p_clash_ofS hb (show (ps ++ [(x, y)]).length ≤ 100 by simp; omega) hw2 with ⟨f, e⟩ | ⟨f, ns, e, _⟩
  · refine .inl ⟨f, ?_⟩
    rw [ha] at e
    generalize ps.map tN = A at *
    simp [-zs_escs_1, d_can_end, b_can_end, e0, e1, e2, e3, e, hes, hl6, isNon]
  · refine .inr ⟨f, ?_⟩
    rw [ha] at e
    generalize ps.map tN = A at *
    generalize ns.map iN = W at *
    simp [-zs_escs_1, d_can_end, b_can_end, e0, e1, e2, e3, e, hes, hl6, isNon]
theorem rk_le_b1 (hw : Ways b ps) : rk ((mkP b ps).map (·.1)) ≤ b + 1 := by
  obtain ⟨S, h1, h2⟩ := lists_ex ((mkP b ps).map (·.1))
  have := len_sub (T := List.range (2 ^ (b + 1))) h1.1 fun y hy => List.mem_range.mpr (((h1.2 y).mp hy).bound fun m hm => by
    rw [mkP_fst] at hm
    exact mark_lt (ways_l hw) m hm)
  rw [h2, List.length_range] at this
  exact (Nat.pow_le_pow_iff_right (by decide)).mp this
/-- how many further ends are needed -/
def needN (b k : Nat) : Nat := if b = 1 then 1 - k else b + 1 - k
theorem sel_mod {xs : List Nat} (hx : ∀ x ∈ xs, x < 2 ^ b) : ∀ e, sel (xs.map fun x => x ||| 2 ^ b) e % 2 ^ b = sel xs e := by
  induction xs with
  | nil => intro e; simp [sel]
  | cons x xs ih =>
    intro e
    rw [List.map_cons, sel, sel, Nat.xor_mod_two_pow, ih (fun y hy => hx y (List.mem_cons_of_mem _ hy))]
    congr 1
    split
    · exact mark_mod (hx x List.mem_cons_self)
    · simp
theorem p_reduced_begins {x : Nat} (hb : b ≤ 60) (hl : ps.length ≤ 100) (hw : Ways b ps) : ∃ (L : Leads) (E : List Nat), d_eliminated [.lst (((ps.map (·.1)).map fun x => x ||| 2 ^ b).map iN)] = .ok [] (.tp [.own (ldD L), .own (.lst (E.map iN))]) ∧ L.length ≤ 61 ∧ ((red L (x ||| 2 ^ b, 0)).1 = 0 ↔ Span ((mkP b ps).map (·.1)) (x ||| 2 ^ b)) ∧
    (Span ((mkP b ps).map (·.1)) (x ||| 2 ^ b) → (red L (x ||| 2 ^ b, 0)).2 < 2 ^ ps.length ∧ SpanP (mkP b ps) (x ||| 2 ^ b) (sel ((mkP b ps).map (·.2)) (red L (x ||| 2 ^ b, 0)).2)) := by
  obtain ⟨L, E, e4, k1⟩ := p_eliminated (b := b + 1) (ms := (ps.map (·.1)).map fun x => x ||| 2 ^ b) (by omega) (by simp; omega) (mark_lt (ways_l hw))
  refine ⟨L, E, e4, by have := k1.len; omega, by rw [mkP_fst]; exact k1.to0.left _ _, fun s => ?_⟩
  rw [mkP_fst] at s
  obtain ⟨p1, p2⟩ := k1.pick s
  have hl1 : ((ps.map (·.1)).map fun x => x ||| 2 ^ b).length = ps.length := by simp
  rw [hl1] at p1
  refine ⟨p1, ?_⟩
  have := sel_spanP (mkP b ps) (red L (x ||| 2 ^ b, 0)).2
  rw [mkP_fst, p2] at this
  exact this
theorem p_sure_in {x y : Nat} (h1 : 1 ≤ b) (hb : b ≤ 60) (hl : ps.length ≤ 100) (hw : Ways b ps) (hf : Fn (mkP b ps)) (hx : x < 2 ^ b) (hy : y < 2 ^ b) (hs : SpanP (mkP b ps) (x ||| 2 ^ b) (y ||| 2 ^ b)) : d_sure_end [iN b, .lst (ps.map tN), iN x] = .ok [] (.fz (iN y)) := by
  have e0 := p_need_both_k52 h1 hb hl hw
  have e1 := p_need_place (b := b) (m := x) (by omega) hx
  have e3 := p_need_agreeing hb hl hw hf
  have e2 := p_begins_of (b := b) (ps := ps) (by omega) hl
  obtain ⟨L, E, e4, hL, r1, r2⟩ := p_reduced_begins (x := x) hb hl hw
  obtain ⟨r3, r4⟩ := r2 hs.fst
  have hz := r1.mpr hs.fst
  have e5 := p_reduced (L := L) (m := x ||| 2 ^ b) (p := 0) (by omega)
  rw [hz] at e5
  have hv := hf.uniq r4 hs
  rw [mkP_snd] at hv
  have hv2 := congrArg (· % 2 ^ b) hv
  simp only [sel_mod (ways_r hw), mark_mod hy] at hv2
  generalize (red L (x ||| 2 ^ b, 0)).2 = p at *
  have e6 := p_bits_of (n := p) (k := ps.length) r3 (by omega)
  have e7 := p_put_bits (rs := ps.map (·.2)) (p := p) (by rw [List.length_map]; exact r3)
  rw [hv2] at e7
  have e8 := lc_map (g := storeN [5, 6]) (t := dYes) (f := dVar 6) (vs := [5, 6]) (ρ := [.ln (iN b), .ln (.lst (ps.map tN)), .ln (iN x), .fz (iN 0), .fz (iN p), .un, .un]) tN (fun q => iN q.2) (xs := ps) (fun q hq => by simp [tN]) (by omega)
  have e9 : (ps.map fun q => iN q.2) = (ps.map (·.2)).map iN := by rw [List.map_map]; rfl
  rw [e9] at e8
  have hb6 : b ≤ 100000 := by omega
  clear r1 r2 r4 hf hw hs hz hv
  generalize ((ps.map (·.1)).map fun x => x ||| 2 ^ b).map iN = B at *
  generalize (ps.map (·.2)).map iN = EN at *
  generalize (bitsN p).map iN = PB at *
  generalize ps.map tN = A at *
  generalize ldD L = D1 at *
  generalize E.map iN = EE at *
  simp [d_sure_end, b_sure_end, e0, e1, e2, e3, e4, e5, e6, e7, e8, hb6]
theorem p_sure_out {x : Nat} (h1 : 1 ≤ b) (hb : b ≤ 60) (hl : ps.length ≤ 100) (hw : Ways b ps) (hf : Fn (mkP b ps)) (hx : x < 2 ^ b) (hs : ¬ Span ((mkP b ps).map (·.1)) (x ||| 2 ^ b)) : d_sure_end [iN b, .lst (ps.map tN), iN x] = .ok [] (.fz (oN (if b = 1 then ps.head?.map fun q => q.2 ^^^ 1 else none))) := by
  have e0 := p_need_both_k52 h1 hb hl hw
  have e1 := p_need_place (b := b) (m := x) (by omega) hx
  have e3 := p_need_agreeing hb hl hw hf
  have e2 := p_begins_of (b := b) (ps := ps) (by omega) hl
  obtain ⟨L, E, e4, hL, r1, r2⟩ := p_reduced_begins (x := x) hb hl hw
  have hz : (red L (x ||| 2 ^ b, 0)).1 ≠ 0 := fun e => hs (r1.mp e)
  have e5 := p_reduced (L := L) (m := x ||| 2 ^ b) (p := 0) (by omega)
  have hb6 : b ≤ 100000 := by omega
  generalize (red L (x ||| 2 ^ b, 0)).1 = z at *
  generalize (red L (x ||| 2 ^ b, 0)).2 = p at *
  have hn0 : gNe2 (.lst (ps.map tN)) (.lst (([] : List (Nat × Nat)).map tN)) = some (.fz (.bl (!decide (ps = [])))) := gNe2_of (eqD_enc (by decide) ps []) (gNeS_lst _ _)
  rw [List.map_nil] at hn0
  have hi0 : ps ≠ [] → (ps.map tN)[0]? = some (tN (ps.headD (0, 0))) := fun h => by cases ps with
    | nil => exact absurd rfl h
    | cons q qs => rfl
  have ho : (if b = 1 then ps.head?.map fun q => q.2 ^^^ 1 else none) = if b = 1 ∧ ps ≠ [] then some ((ps.headD (0, 0)).2 ^^^ 1) else none := by
    cases ps with
    | nil => simp
    | cons q qs => simp
  rw [ho]
  clear r1 r2 hf hw hs ho
  generalize ((ps.map (·.1)).map fun x => x ||| 2 ^ b).map iN = B at *
  generalize ps.headD (0, 0) = q0 at *
  obtain ⟨u, v⟩ := q0
  simp only [tN] at hi0
  generalize ldD L = D1 at *
  generalize E.map iN = EE at *
  by_cases c : b = 1
  · by_cases c2 : ps = []
    · subst c c2
      simp only [List.map_nil] at *
      simp [d_sure_end, b_sure_end, e0, e1, e2, e3, e4, e5, hz, oN]
    · have hi0 := hi0 c2
      subst c
      have hn1 : gNe2 (.lst (ps.map tN)) (.lst []) = some (.fz (.bl true)) := by rw [hn0, decide_eq_false c2]; rfl
      generalize ps.map tN = A at *
      simp [d_sure_end, b_sure_end, e0, e1, e2, e3, e4, e5, hz, hn1, hi0, c2, oN]
  · generalize ps.map tN = A at *
    simp [d_sure_end, b_sure_end, e0, e1, e2, e3, e4, e5, hz, hb6, c, oN]
end
end PG
namespace PG
open DN Gf
open L2 (Key)
open PySem (PyData Str)
theorem two_half {n : Nat} (h : 1 ≤ n) : 2 ^ n = 2 * 2 ^ (n - 1) := by
  cases n with
  | zero => omega
  | succ n => rw [Nat.pow_succ']; rfl
/-- half of what marked masks make is marked -/
theorem marked_count {b : Nat} {ms : List Nat} (hm : ∀ m ∈ ms, m < 2 ^ (b + 1) ∧ m.testBit b = true) (hne : ms ≠ []) [DecidablePred fun g => Span ms (g ||| 2 ^ b)] :
    ((List.range (2 ^ b)).filter fun g => decide (Span ms (g ||| 2 ^ b))).length = 2 ^ (rk ms - 1) := by
  obtain ⟨S, ⟨nd, hS⟩, hl⟩ := lists_ex ms
  obtain ⟨m0, hm0⟩ : ∃ m0, m0 ∈ ms := List.exists_mem_of_ne_nil ms hne
  have hb0 := (hm m0 hm0).2
  have hSl : ∀ x ∈ S, x < 2 ^ (b + 1) := fun x hx => ((hS x).mp hx).bound fun m h => (hm m h).1
  have inj : ∀ {f : Nat → Nat} {A : List Nat}, A.Nodup → (∀ x ∈ A, ∀ y ∈ A, f x = f y → x = y) → (A.map f).Nodup := fun {f A} ha hf =>
    List.pairwise_map.mpr (ha.imp_of_mem fun {x y} hx hy hne e => hne (hf x hx y hy e))
  -- marked and unmarked
  have hA : (S.filter fun x => x.testBit b).length = (S.filter fun x => !x.testBit b).length := by
    refine Nat.le_antisymm ?_ ?_
    · have := len_sub (S := (S.filter fun x => x.testBit b).map (· ^^^ m0)) (T := S.filter fun x => !x.testBit b) (inj (nd.filter _) fun x _ y _ e => by
        have := congrArg (· ^^^ m0) e
        simpa only [xor_d] using this) fun x hx => by
        obtain ⟨y, hy, rfl⟩ := List.mem_map.mp hx
        obtain ⟨h1, h2⟩ := List.mem_filter.mp hy
        refine List.mem_filter.mpr ⟨(hS _).mpr (((hS y).mp h1).xor (.mem hm0)), ?_⟩
        rw [Nat.testBit_xor, h2, hb0]; rfl
      rwa [List.length_map] at this
    · have := len_sub (S := (S.filter fun x => !x.testBit b).map (· ^^^ m0)) (T := S.filter fun x => x.testBit b) (inj (nd.filter _) fun x _ y _ e => by
        have := congrArg (· ^^^ m0) e
        simpa only [xor_d] using this) fun x hx => by
        obtain ⟨y, hy, rfl⟩ := List.mem_map.mp hx
        obtain ⟨h1, h2⟩ := List.mem_filter.mp hy
        refine List.mem_filter.mpr ⟨(hS _).mpr (((hS y).mp h1).xor (.mem hm0)), ?_⟩
        simp only [Bool.not_eq_true'] at h2
        rw [Nat.testBit_xor, h2, hb0]; rfl
      rwa [List.length_map] at this
  have hsum : (S.filter fun x => x.testBit b).length + (S.filter fun x => !x.testBit b).length = S.length := by
    have := List.length_eq_countP_add_countP (fun x : Nat => x.testBit b) (l := S)
    rw [← List.countP_eq_length_filter, ← List.countP_eq_length_filter, this]
    congr 1
    refine List.countP_congr fun x _ => ?_
    simp
  have hB : ((List.range (2 ^ b)).filter fun g => decide (Span ms (g ||| 2 ^ b))).length = (S.filter fun x => x.testBit b).length := by
    refine Nat.le_antisymm ?_ ?_
    · have := len_sub (S := ((List.range (2 ^ b)).filter fun g => decide (Span ms (g ||| 2 ^ b))).map (· ||| 2 ^ b)) (T := S.filter fun x => x.testBit b) (inj (List.nodup_range.filter _) fun x hx y hy e => mark_inj (List.mem_range.mp (List.mem_filter.mp hx).1) (List.mem_range.mp (List.mem_filter.mp hy).1) e) fun x hx => by
        obtain ⟨y, hy, rfl⟩ := List.mem_map.mp hx
        obtain ⟨h1, h2⟩ := List.mem_filter.mp hy
        exact List.mem_filter.mpr ⟨(hS _).mpr (of_decide_eq_true h2), mark_bit y⟩
      rwa [List.length_map] at this
    · have := len_sub (S := (S.filter fun x => x.testBit b).map (· % 2 ^ b)) (T := (List.range (2 ^ b)).filter fun g => decide (Span ms (g ||| 2 ^ b))) (inj (nd.filter _) fun x hx y hy e => by
        obtain ⟨h1, h2⟩ := List.mem_filter.mp hx
        obtain ⟨h3, h4⟩ := List.mem_filter.mp hy
        rw [← mark_of (hSl x h1) h2, ← mark_of (hSl y h3) h4, e]) fun x hx => by
        obtain ⟨y, hy, rfl⟩ := List.mem_map.mp hx
        obtain ⟨h1, h2⟩ := List.mem_filter.mp hy
        refine List.mem_filter.mpr ⟨List.mem_range.mpr (Nat.mod_lt _ (Nat.two_pow_pos b)), ?_⟩
        exact decide_eq_true (show Span ms (y % 2 ^ b ||| 2 ^ b) by rw [mark_of (hSl y h1) h2]; exact (hS y).mp h1)
      rwa [List.length_map] at this
  have hk : 1 ≤ rk ms := by
    rcases Nat.eq_zero_or_pos (rk ms) with h | h
    · rw [h] at hl
      have hm0' := (hS m0).mpr (.mem hm0)
      have h0' := (hS 0).mpr (Span.zero ms)
      obtain ⟨x, hx⟩ := List.length_eq_one_iff.mp hl
      rw [hx, List.mem_singleton] at hm0' h0'
      rw [hm0', ← h0', Nat.zero_testBit] at hb0
      cases hb0
    · exact h
  have hp := two_half hk
  omega
section
variable {b : Nat} {ps : List (Nat × Nat)} {m : Mp}
def Su (b : Nat) (ps : List (Nat × Nat)) (x : Nat) : Prop := Span ((mkP b ps).map (·.1)) (x ||| 2 ^ b)
noncomputable def kR (b : Nat) (ps : List (Nat × Nat)) : Nat := rk ((mkP b ps).map (·.1))
theorem kR_in {x y : Nat} (h : Su b ps x) : kR b (ps ++ [(x, y)]) = kR b ps := by
  unfold kR
  rw [mkP_snoc, List.map_append, List.map_singleton]
  exact rk_snoc_in h
theorem kR_out {x y : Nat} (h : ¬ Su b ps x) : kR b (ps ++ [(x, y)]) = kR b ps + 1 := by
  unfold kR
  rw [mkP_snoc, List.map_append, List.map_singleton]
  exact rk_snoc_out h
theorem kR_nil : kR b [] = 0 := rfl
theorem kR_zero (h : kR b ps = 0) : ps = [] := by
  cases ps with
  | nil => rfl
  | cons q qs =>
    exfalso
    obtain ⟨S, ⟨nd, hS⟩, hl⟩ := lists_ex ((mkP b (q :: qs)).map (·.1))
    have h : rk ((mkP b (q :: qs)).map (·.1)) = 0 := h
    rw [h] at hl
    have h1 := (hS (q.1 ||| 2 ^ b)).mpr (.mem (List.mem_cons_self))
    have h0 := (hS 0).mpr (Span.zero _)
    obtain ⟨x, hx⟩ := List.length_eq_one_iff.mp hl
    rw [hx, List.mem_singleton] at h1 h0
    have := mark_bit (b := b) q.1
    rw [h1, ← h0, Nat.zero_testBit] at this
    cases this
theorem cntA_pos {k : Nat} : 0 < cntA b k := by
  have key : ∀ (l : List Nat) (a : Nat), 0 < a → (∀ t ∈ l, t < b) → 0 < l.foldl (fun a t => a * (2 ^ b - 2 ^ t)) a := by
    intro l
    induction l with
    | nil => intro a ha _; exact ha
    | cons t l ih =>
      intro a ha ht
      rw [List.foldl_cons]
      refine ih _ (Nat.mul_pos ha ?_) fun s hs => ht s (List.mem_cons_of_mem _ hs)
      have := Nat.pow_lt_pow_right (a := 2) (by decide) (ht t List.mem_cons_self)
      omega
  unfold cntA
  refine key _ _ ?_ fun t ht => ?_
  · have := Nat.two_pow_pos b
    split <;> omega
  · have := List.mem_range'_1.mp ht
    omega
theorem cntA_top : cntA b (b + 1) = 1 := by
  unfold cntA
  rw [if_neg (by omega), show b + 1 - 1 = b by omega, Nat.sub_self]
  rfl
theorem factor_two {k : Nat} (h1 : 1 ≤ k) (hk : k ≤ b) (hb : 2 ≤ b) : 2 ≤ 2 ^ b - 2 ^ (k - 1) := by
  have e1 : 2 ^ (k - 1) ≤ 2 ^ (b - 1) := Nat.pow_le_pow_right (by decide) (by omega)
  have e2 := two_half (show 1 ≤ b by omega)
  have e3 : 2 ^ 1 ≤ 2 ^ (b - 1) := Nat.pow_le_pow_right (by decide) (by omega)
  omega
theorem agrN_fn (hf : Fn (mkP b ps)) : agrN b ps = cntA b (kR b ps) := by unfold agrN; rw [if_pos hf]; rfl
theorem agrN_no (hf : ¬ Fn (mkP b ps)) : agrN b ps = 0 := by unfold agrN; rw [if_neg hf]
theorem agrN_pos : 0 < agrN b ps ↔ Fn (mkP b ps) := by
  by_cases h : Fn (mkP b ps)
  · rw [agrN_fn h]; exact ⟨fun _ => h, fun _ => cntA_pos⟩
  · rw [agrN_no h]; exact ⟨fun q => absurd q (Nat.lt_irrefl 0), fun q => absurd q h⟩
theorem Su.sp {x : Nat} (h : Map b m) (hw : Ways b ps) (ha : Agr m ps) (hx : x < 2 ^ b) (hs : Su b ps x) : SpanP (mkP b ps) (x ||| 2 ^ b) (app m x ||| 2 ^ b) := by
  obtain ⟨y, s⟩ := SpanP.of_fst hs
  have e := agr_span h hw ha s
  rw [linM_mark h hx] at e
  rwa [e] at s
open Classical in
noncomputable def SureB (b : Nat) (ps : List (Nat × Nat)) (x : Nat) : Bool := decide (Su b ps x ∨ (b = 1 ∧ ps ≠ []))
open Classical in
theorem sureB_iff {b : Nat} {ps : List (Nat × Nat)} {x : Nat} : SureB b ps x = true ↔ Su b ps x ∨ (b = 1 ∧ ps ≠ []) := by unfold SureB; exact decide_eq_true_iff
theorem other_one {a c d : Nat} (h1 : a < 2) (h2 : c < 2) (h : a ≠ c) (h3 : d = c ^^^ 1) : a = d := by
  have : c = 0 ∨ c = 1 := by omega
  rcases this with rfl | rfl
  · have : a = 1 := by omega
    subst this; rw [h3]; rfl
  · have : a = 0 := by omega
    subst this; rw [h3]; rfl
theorem p_sure {x : Nat} (h1 : 1 ≤ b) (hb : b ≤ 60) (hl : ps.length ≤ 100) (hw : Ways b ps) (h : Map b m) (ha : Agr m ps) (hx : x < 2 ^ b) : d_sure_end [iN b, .lst (ps.map tN), iN x] = .ok [] (.fz (oN (if SureB b ps x = true then some (app m x) else none))) := by
  have hf := agr_fn h hw ha
  by_cases hs : Su b ps x
  · have e := p_sure_in h1 hb hl hw hf hx (app_lt h x) (hs.sp h hw ha hx)
    rw [e, if_pos (sureB_iff.mpr (.inl hs))]
    rfl
  · have e := p_sure_out h1 hb hl hw hf hx hs
    rw [e]
    by_cases c : b = 1 ∧ ps ≠ []
    · obtain ⟨rfl, c⟩ := c
      rw [if_pos rfl, if_pos (sureB_iff.mpr (.inr ⟨rfl, c⟩))]
      cases ps with
      | nil => exact absurd rfl c
      | cons q qs =>
        have hq := hw q List.mem_cons_self
        have haq := ha q List.mem_cons_self
        have hne : x ≠ q.1 := fun e => hs (by rw [e]; exact Span.mem List.mem_cons_self)
        have hne2 : app m x ≠ q.2 := fun e => hne (app_inj h hx hq.1 (e.trans haq.symm))
        have := other_one (app_lt h x) hq.2 hne2 rfl
        rw [this]
        rfl
    · rw [if_neg (fun q : SureB b ps x = true => (sureB_iff.mp q).elim hs c)]
      by_cases c1 : b = 1
      · have c2 : ps = [] := Classical.byContradiction fun q => c ⟨c1, q⟩
        subst c2
        rw [if_pos c1]
        rfl
      · rw [if_neg c1]
/-- what one way more changes -/
theorem way_more {x : Nat} (h1 : 1 ≤ b) (hw : Ways b ps) (h : Map b m) (ha : Agr m ps) (hx : x < 2 ^ b) :
    let k := kR b ps
    let k' := kR b (ps ++ [(x, app m x)])
    cntA b k' ≤ cntA b k ∧ 1 ≤ cntA b k' ∧ (cntA b k' < cntA b k ↔ ¬ SureB b ps x = true) ∧ (SureB b ps x = true → needN b k' = needN b k) ∧ (¬ SureB b ps x = true → needN b k' + 1 = needN b k) ∧ (needN b k' = 0 ↔ cntA b k' = 1) := by
  have hw2 : Ways b (ps ++ [(x, app m x)]) := fun q hq => by
    rcases List.mem_append.mp hq with hq | hq
    · exact hw q hq
    · rw [List.mem_singleton.mp hq]; exact ⟨hx, app_lt h x⟩
  have hkb := rk_le_b1 hw2
  have hk0 : kR b (ps ++ [(x, app m x)]) ≠ 0 := fun e => by
    have := kR_zero e
    simp at this
  have hkb : kR b (ps ++ [(x, app m x)]) ≤ b + 1 := hkb
  -- one agrees just if none are needed
  have hone : needN b (kR b (ps ++ [(x, app m x)])) = 0 ↔ cntA b (kR b (ps ++ [(x, app m x)])) = 1 := by
    generalize kR b (ps ++ [(x, app m x)]) = k' at *
    unfold needN
    by_cases c : b = 1
    · subst c
      have : k' = 1 ∨ k' = 2 := by omega
      rcases this with rfl | rfl <;> decide
    · rw [if_neg c]
      rcases Nat.lt_or_eq_of_le hkb with q | rfl
      · have e := cntA_succ (b := b) (k := k') (by omega) (by omega)
        have f := factor_two (b := b) (k := k') (by omega) (by omega) (by omega)
        have p := cntA_pos (b := b) (k := k' + 1)
        have := Nat.mul_le_mul f p
        omega
      · rw [cntA_top]; omega
  intro k k'
  by_cases hs : Su b ps x
  · have e : k' = k := kR_in hs
    have hsb : SureB b ps x = true := sureB_iff.mpr (.inl hs)
    refine ⟨by rw [e]; exact Nat.le_refl _, cntA_pos, ?_, fun _ => by rw [e], fun q => absurd hsb q, hone⟩
    rw [e]
    exact ⟨fun q => absurd q (Nat.lt_irrefl _), fun q => absurd hsb q⟩
  · have e : k' = k + 1 := kR_out hs
    have hk : k ≤ b := by
      have : k' ≤ b + 1 := hkb
      omega
    have hkz : k = 0 → ps = [] := kR_zero
    have hkn : ps = [] → k = 0 := fun q => by show kR b ps = 0; rw [q]; rfl
    rw [show kR b (ps ++ [(x, app m x)]) = k' from rfl] at hone
    rw [e] at hone ⊢
    by_cases c : b = 1 ∧ ps ≠ []
    · obtain ⟨rfl, c⟩ := c
      have hsb : SureB 1 ps x = true := sureB_iff.mpr (.inr ⟨rfl, c⟩)
      have hk1 : k = 1 := by
        have : k ≠ 0 := fun q => c (hkz q)
        omega
      rw [hk1] at hone ⊢
      refine ⟨by decide, by decide, ⟨fun q => absurd q (by decide), fun q => absurd hsb q⟩, fun _ => by decide, fun q => absurd hsb q, hone⟩
    · have hsb : ¬ SureB b ps x = true := fun q => (sureB_iff.mp q).elim hs c
      have hlt : cntA b (k + 1) < cntA b k := by
        have p := cntA_pos (b := b) (k := k + 1)
        by_cases hk0 : k = 0
        · rw [hk0, cntA_0]
          rw [hk0] at p
          have e3 : 2 ^ 1 ≤ 2 ^ b := Nat.pow_le_pow_right (by decide) h1
          have key : ∀ c : Nat, 0 < c → c < 2 ^ b * c := fun c hc => by
            have := Nat.mul_le_mul_right c e3
            omega
          exact key _ p
        · have hb2 : 2 ≤ b := by
            rcases Nat.lt_or_ge b 2 with q | q
            · exact absurd ⟨by omega, fun q => hk0 (hkn q)⟩ c
            · exact q
          rw [cntA_succ (k := k) (by omega) hk]
          have f := factor_two (b := b) (k := k) (by omega) hk hb2
          have := Nat.mul_le_mul_right (cntA b (k + 1)) f
          omega
      refine ⟨Nat.le_of_lt hlt, cntA_pos, ⟨fun _ => hsb, fun _ => hlt⟩, fun q => absurd q hsb, fun _ => ?_, hone⟩
      unfold needN
      by_cases c1 : b = 1
      · have hk0 : k = 0 := hkn (Classical.byContradiction fun q => c ⟨c1, q⟩)
        rw [if_pos c1, if_pos c1, hk0]
      · rw [if_neg c1, if_neg c1]; omega
/-- the numbers over all ends of a place -/
theorem sum_ite {c : Nat} (p : Nat → Bool) : ∀ l : List Nat, (l.map fun g => if p g = true then c else 0).sum = (l.filter p).length * c
  | [] => by simp
  | g :: l => by
    rw [List.map_cons, List.sum_cons, sum_ite p l, List.filter_cons]
    split
    · rw [List.length_cons, Nat.add_mul, Nat.one_mul]; omega
    · omega
open Classical in
theorem parts_sum {x : Nat} (h1 : 1 ≤ b) (hw : Ways b ps) (h : Map b m) (ha : Agr m ps) (hx : x < 2 ^ b) : ((List.range (2 ^ b)).map fun g => agrN b (ps ++ [(x, g)])).sum = agrN b ps := by
  have hf := agr_fn h hw ha
  rw [agrN_fn hf]
  have e0 : ((List.range (2 ^ b)).map fun g => agrN b (ps ++ [(x, g)])) = (List.range (2 ^ b)).map fun g => if decide (Fn (mkP b (ps ++ [(x, g)]))) = true then cntA b (kR b (ps ++ [(x, 0)])) else 0 := by
    refine List.map_congr_left fun g _ => ?_
    by_cases c : Fn (mkP b (ps ++ [(x, g)]))
    · rw [agrN_fn c, if_pos (decide_eq_true c)]
      congr 1
      by_cases s : Su b ps x
      · rw [kR_in s, kR_in s]
      · rw [kR_out s, kR_out s]
    · rw [agrN_no c, if_neg (by simpa using c)]
  rw [e0, sum_ite]
  by_cases s : Su b ps x
  · have e1 : ((List.range (2 ^ b)).filter fun g => decide (Fn (mkP b (ps ++ [(x, g)])))) = (List.range (2 ^ b)).filter fun g => decide (g = app m x) := by
      refine List.filter_congr fun g hg => ?_
      rw [decide_eq_decide, mkP_snoc, hf.snoc_in (s.sp h hw ha hx)]
      exact ⟨fun e => mark_inj (List.mem_range.mp hg) (app_lt h x) e, fun e => by rw [e]⟩
    have e2 : ((List.range (2 ^ b)).filter fun g => decide (g = app m x)).length = 1 := by
      have : ((List.range (2 ^ b)).filter fun g => decide (g = app m x)) = [app m x] := asc_ext (List.Pairwise.filter _ (List.pairwise_lt_range ..)) (by simp) fun g => by
        rw [List.mem_filter, List.mem_singleton, decide_eq_true_eq, List.mem_range]
        exact ⟨fun q => q.2, fun q => ⟨by rw [q]; exact app_lt h x, q⟩⟩
      rw [this]; rfl
    rw [e1, e2, kR_in s, Nat.one_mul]
  · rw [kR_out s]
    by_cases c : ps = []
    · subst c
      have e1 : ((List.range (2 ^ b)).filter fun g => decide (Fn (mkP b ([] ++ [(x, g)])))) = List.range (2 ^ b) := by
        refine List.filter_eq_self.mpr fun g _ => decide_eq_true ?_
        rw [mkP_snoc]
        refine (Fn.nil.snoc_out s).mpr fun q => ?_
        have : g ||| 2 ^ b = 0 := by
          generalize g ||| 2 ^ b = z at q
          cases q; rfl
        have h2 := mark_bit (b := b) g
        rw [this, Nat.zero_testBit] at h2
        cases h2
      rw [e1, List.length_range, kR_nil, cntA_0]
    · have e1 : ((List.range (2 ^ b)).filter fun g => decide (Fn (mkP b (ps ++ [(x, g)])))) = (List.range (2 ^ b)).filter fun g => !decide (Span ((mkP b ps).map (·.2)) (g ||| 2 ^ b)) := by
        refine List.filter_congr fun g _ => ?_
        rw [mkP_snoc, Bool.eq_iff_iff, decide_eq_true_eq, hf.snoc_out s]
        simp
      have hc := marked_count (b := b) (ms := (mkP b ps).map (·.2)) (fun y hy => by
        rw [mkP_snd, List.map_map] at hy
        obtain ⟨q, hq, rfl⟩ := List.mem_map.mp hy
        exact ⟨mark_ltG (hw q hq).2, mark_bit _⟩) (by
        intro q
        rw [List.map_eq_nil_iff] at q
        exact c (List.map_eq_nil_iff.mp q))
      have hsum : ((List.range (2 ^ b)).filter fun g => decide (Span ((mkP b ps).map (·.2)) (g ||| 2 ^ b))).length + ((List.range (2 ^ b)).filter fun g => !decide (Span ((mkP b ps).map (·.2)) (g ||| 2 ^ b))).length = 2 ^ b := by
        have := List.length_eq_countP_add_countP (fun g : Nat => decide (Span ((mkP b ps).map (·.2)) (g ||| 2 ^ b))) (l := List.range (2 ^ b))
        rw [List.length_range] at this
        rw [← List.countP_eq_length_filter, ← List.countP_eq_length_filter]
        refine Eq.trans ?_ this.symm
        congr 1
        refine List.countP_congr fun g _ => ?_
        simp
      rw [← Fn.rks _ hf] at hc
      have hk0 : kR b ps ≠ 0 := fun e => c (kR_zero e)
      have hkb : kR b ps ≤ b := by
        have hw2 : Ways b (ps ++ [(x, 0)]) := fun q hq => by
          rcases List.mem_append.mp hq with hq | hq
          · exact hw q hq
          · rw [List.mem_singleton.mp hq]; exact ⟨hx, Nat.two_pow_pos b⟩
        have : kR b (ps ++ [(x, 0)]) ≤ b + 1 := rk_le_b1 hw2
        rw [kR_out s] at this
        omega
      have hc : _ = 2 ^ (kR b ps - 1) := hc
      rw [e1, cntA_succ (k := kR b ps) (by omega) hkb]
      congr 1
      omega
end
end PG
namespace PG
open DN Gf
open L2 (Key)
open PySem (PyData Str)
abbrev Gr := List (Nat × List Nat)
def grL (F : Gr) (x : Nat) : List Nat := ((F.find? fun p => decide (p.1 = x)).map (·.2)).getD []
/-- x under k -/
def grPut (F : Gr) (k x : Nat) : Gr := if (F.any fun p => decide (p.1 = k)) = true then F.map fun p => if p.1 = k then (p.1, grL F k ++ [x]) else p else F ++ [(k, [x])]
/-- the places of d by their ends -/
structure Grp (f : Nat → Nat) (d : List Nat) (F : Gr) : Prop where
  nd : (F.map (·.1)).Nodup
  at_ : ∀ p ∈ F, p.2 = d.filter (fun x => decide (f x = p.1)) ∧ p.2 ≠ []
  all : ∀ x ∈ d, f x ∈ F.map (·.1)
theorem Grp.nil (f : Nat → Nat) : Grp f [] [] := ⟨List.nodup_nil, fun _ h => (nomatch h), fun _ h => (nomatch h)⟩
theorem Grp.get {f : Nat → Nat} {d : List Nat} {F : Gr} (h : Grp f d F) (k : Nat) : grL F k = d.filter fun x => decide (f x = k) := by
  unfold grL
  cases e : F.find? (fun p => decide (p.1 = k)) with
  | some p =>
    have hk : p.1 = k := by simpa using List.find?_some e
    rw [← hk]
    exact (h.at_ p (List.mem_of_find?_eq_some e)).1
  | none =>
    refine (List.filter_eq_nil_iff.mpr fun x hx => ?_).symm
    obtain ⟨p, hp, e2⟩ := List.mem_map.mp (h.all x hx)
    have := List.find?_eq_none.mp e p hp
    rw [e2] at this
    exact this
theorem Grp.step {f : Nat → Nat} {d : List Nat} {F : Gr} (h : Grp f d F) (x : Nat) : Grp f (d ++ [x]) (grPut F (f x) x) := by
  unfold grPut
  by_cases hk : (F.any fun p => decide (p.1 = f x)) = true
  · rw [if_pos hk]
    have hmap : (F.map fun p => if p.1 = f x then (p.1, grL F (f x) ++ [x]) else p).map (·.1) = F.map (·.1) := by
      rw [List.map_map]
      refine List.map_congr_left fun p _ => ?_
      simp only [Function.comp]
      split <;> rfl
    refine ⟨by rw [hmap]; exact h.nd, fun p hp => ?_, fun y hy => ?_⟩
    · obtain ⟨q, hq, rfl⟩ := List.mem_map.mp hp
      rw [List.filter_append]
      by_cases e : q.1 = f x
      · rw [if_pos e]
        simp only
        rw [h.get, e]
        simp
      · rw [if_neg e]
        obtain ⟨h1, h2⟩ := h.at_ q hq
        have : ¬ f x = q.1 := fun z => e z.symm
        refine ⟨?_, h2⟩
        simp only [List.filter_cons, this, decide_false, Bool.false_eq_true, if_false, List.filter_nil, List.append_nil]
        exact h1
    · rw [hmap]
      rcases List.mem_append.mp hy with hy | hy
      · exact h.all y hy
      · rw [List.mem_singleton.mp hy]
        obtain ⟨p, hp, e⟩ := List.any_eq_true.mp hk
        exact List.mem_map.mpr ⟨p, hp, of_decide_eq_true e⟩
  · rw [if_neg hk]
    have hnot : f x ∉ F.map (·.1) := fun z => by
      obtain ⟨p, hp, e⟩ := List.mem_map.mp z
      exact hk (List.any_eq_true.mpr ⟨p, hp, decide_eq_true e⟩)
    refine ⟨?_, fun p hp => ?_, fun y hy => ?_⟩
    · rw [List.map_append]
      refine List.nodup_append.mpr ⟨h.nd, by simp, fun a ha b hb => ?_⟩
      simp at hb
      subst hb
      exact fun e => hnot (e ▸ ha)
    · rw [List.filter_append]
      rcases List.mem_append.mp hp with hp | hp
      · obtain ⟨h1, h2⟩ := h.at_ p hp
        have : ¬ f x = p.1 := fun z => hnot (z ▸ List.mem_map.mpr ⟨p, hp, rfl⟩)
        refine ⟨?_, h2⟩
        simp only [List.filter_cons, this, decide_false, Bool.false_eq_true, if_false, List.filter_nil, List.append_nil]
        exact h1
      · rw [List.mem_singleton.mp hp]
        have hn : d.filter (fun y => decide (f y = f x)) = [] := List.filter_eq_nil_iff.mpr fun y hy e => hnot (by
          have := h.all y hy
          rwa [of_decide_eq_true e] at this)
        simp [hn]
    · rw [List.map_append]
      rcases List.mem_append.mp hy with hy | hy
      · exact List.mem_append_left _ (h.all y hy)
      · rw [List.mem_singleton.mp hy]
        simp
/-- lists of k each, all together d -/
theorem Grp.sum {f : Nat → Nat} : ∀ {F : Gr} {d : List Nat}, Grp f d F → (F.map fun p => p.2.length).sum = d.length
  | [], d, h => by
    cases d with
    | nil => rfl
    | cons x d => exact absurd (h.all x List.mem_cons_self) (by simp)
  | p :: F, d, h => by
    have nd := h.nd
    rw [List.map_cons] at nd
    obtain ⟨n1, n2⟩ := List.nodup_cons.mp nd
    have ih := Grp.sum (f := f) (F := F) (d := d.filter fun x => !decide (f x = p.1)) ⟨n2, fun q hq => ?_, fun x hx => ?_⟩
    · rw [List.map_cons, List.sum_cons, ih, (h.at_ p List.mem_cons_self).1]
      have := List.length_eq_countP_add_countP (fun x => decide (f x = p.1)) (l := d)
      rw [this, List.countP_eq_length_filter, List.countP_eq_length_filter]
      congr 2
      refine List.filter_congr fun x _ => ?_
      by_cases e : f x = p.1 <;> simp [e]
    · obtain ⟨h1, h2⟩ := h.at_ q (List.mem_cons_of_mem _ hq)
      refine ⟨?_, h2⟩
      rw [h1, List.filter_filter]
      refine List.filter_congr fun x _ => ?_
      by_cases e : f x = q.1
      · have : ¬ f x = p.1 := fun z => n1 (by rw [← z, e]; exact List.mem_map.mpr ⟨q, hq, rfl⟩)
        simp [e]
        intro z
        exact this (by rw [e, z])
      · simp [e]
    · obtain ⟨h1, h2⟩ := List.mem_filter.mp hx
      have := h.all x h1
      rw [List.map_cons] at this
      rcases List.mem_cons.mp this with e | e
      · rw [e] at h2; simp at h2
      · exact e
theorem span_units {us : List Nat} {z b : Nat} (hz : z < 2 ^ b) (h : ∀ j, z.testBit j = true → j ∈ us) : Span (us.map fun i => 2 ^ i) z :=
  span_bits hz fun j hj => .mem (List.mem_map.mpr ⟨j, h j hj, rfl⟩)
end PG
namespace PG
open DN Gf
open L2 (Key)
open PySem (PyData Str)
noncomputable def lk (m : Mp) (π : List Nat) (n : Nat) : Nat := n - rk (cutR m.1 (π.take n))
variable {b n : Nat} {m : Mp} {π : List Nat}
theorem fib_mem {f : Nat → Nat} {K : Nat} {d : List Nat} (hf : ∀ y ∈ d, f y < K) {y : Nat} : y ∈ (List.range K).flatMap (fun x => d.filter fun y => decide (f y = x)) ↔ y ∈ d := by
  rw [List.mem_flatMap]
  constructor
  · rintro ⟨x, hx, hy⟩
    exact (List.mem_filter.mp hy).1
  · intro hy
    exact ⟨f y, List.mem_range.mpr (hf y hy), List.mem_filter.mpr ⟨hy, decide_eq_true rfl⟩⟩
theorem fib_nodup {f : Nat → Nat} {d : List Nat} (nd : d.Nodup) : ∀ K : Nat, ((List.range K).flatMap (fun x => d.filter fun y => decide (f y = x))).Nodup
  | 0 => by simp
  | K + 1 => by
    rw [List.range_succ, List.flatMap_append]
    refine List.nodup_append.mpr ⟨fib_nodup nd K, by rw [List.flatMap_singleton]; exact nd.filter _, fun x hx y hy e => ?_⟩
    subst e
    obtain ⟨k, hk, hx⟩ := List.mem_flatMap.mp hx
    have h1 := of_decide_eq_true (List.mem_filter.mp hx).2
    simp at hy
    have := List.mem_range.mp hk
    omega
theorem sortN_range {L : List Nat} {N : Nat} (nd : L.Nodup) (h : ∀ y, y ∈ L ↔ y < N) : sortN L = List.range N := by
  refine asc_ext ?_ List.pairwise_lt_range fun y => by rw [mem_sortN, h, List.mem_range]
  have h1 := sortN_le L
  have h2 : (sortN L).Nodup := (sortN_perm L).nodup_iff.mpr nd
  exact (h1.and h2).imp fun ⟨a, c⟩ => Nat.lt_of_le_of_ne a c
theorem cr_all (h : Map b m) (hp : π.Perm (List.range b)) : sortN ((List.range (2 ^ b)).flatMap (crP b m π n)) = List.range (2 ^ b) := by
  have hlt : ∀ y ∈ List.range (2 ^ b), wkA m (mk (π.take n)) y < 2 ^ b := fun x hx => by
    unfold wkA
    exact Nat.or_lt_two_pow (and_lt (app_lt h x)) (andN_lt (List.mem_range.mp hx))
  refine sortN_range (fib_nodup List.nodup_range _) fun y => ?_
  show y ∈ (List.range (2 ^ b)).flatMap (fun x => (List.range (2 ^ b)).filter fun y => decide (wkA m (mk (π.take n)) y = x)) ↔ _
  rw [fib_mem hlt, List.mem_range]
theorem cr_sum (h : Map b m) (hp : π.Perm (List.range b)) : ((List.range (2 ^ b)).map fun x => (crP b m π n x).length).sum = 2 ^ b := by
  have e := congrArg List.length (cr_all (n := n) h hp)
  rw [(sortN_perm _).length_eq, List.length_flatMap, List.length_range] at e
  exact e
end PG
namespace PG
open DN Gf
open L2 (Key)
open PySem (PyData Str)
/-- q begins at bit k -/
def Beg (q k : Nat) : Prop := q.testBit k = true ∧ ∀ j, j < k → q.testBit j = false
theorem beg_led {b k q : Nat} {L : Leads} {E ms : List Nat} (h : Elim b L E ms) (hq : Span ms q) (hb : Beg q k) (hk : k < b) : find L k ≠ none := fun hf => by
  obtain ⟨j, hj, ej⟩ := List.getElem_of_mem (mem_frs.mpr ⟨hk, hf⟩)
  have hlt : 2 ^ j < 2 ^ (frs b L).length := Nat.pow_lt_pow_right (by decide) hj
  have x1 := wi_lt (o := 0) (i := 2 ^ j) h.low h.nd h.lt
  have x2 := wi_le (o := 0) (i := 2 ^ j) h.low h.nd h.lt
  have x3 := wi_idx (o := 0) h.low h.nd h.lt hlt
  generalize wi b L 0 (2 ^ j) = x at *
  have hv : vec ms x = 0 := (sol_iff h (Nat.two_pow_pos _)).mpr ⟨x2, fun e _ => by rw [Nat.and_zero]; rfl⟩
  have hp : par (q &&& x) = false := par_span (fun a ha => by
    obtain ⟨i, hi, rfl⟩ := List.getElem_of_mem ha
    rw [← vec_bit' x hi, hv, Nat.zero_testBit]) hq
  have hne : x ≠ 0 := fun e => by
    subst e
    have := sIdx_bit (x := 0) hj
    rw [x3, Nat.zero_testBit, Nat.testBit_two_pow] at this
    simp at this
  have hz : LE L 0 0 := fun p hp => by rw [Nat.and_zero, Nat.and_zero]
  obtain ⟨t, ht, h1, h2⟩ := part_free h.low x1 (Nat.two_pow_pos b) x2 hz hne
  rw [Nat.zero_testBit] at h1
  have htk : t = k := by
    obtain ⟨j', hj', rfl⟩ := List.getElem_of_mem ht
    have := sIdx_bit (x := x) hj'
    rw [x3, Nat.testBit_two_pow] at this
    have hjj : j = j' := by
      cases hx : x.testBit (frs b L)[j'] with
      | false => exact absurd hx h1
      | true => rw [hx] at this; exact of_decide_eq_true this
    subst hjj
    exact ej
  subst htk
  have e : q &&& x = 2 ^ t := by
    refine Nat.eq_of_testBit_eq fun i => ?_
    rw [Nat.testBit_and, Nat.testBit_two_pow]
    rcases Nat.lt_trichotomy i t with c | c | c
    · rw [hb.2 i c]
      simp
      omega
    · subst c
      rw [hb.1]
      cases hx : x.testBit i with
      | false => exact absurd hx h1
      | true => simp
    · rw [h2 i c, Nat.zero_testBit]
      simp
      omega
  rw [e, par_pow] at hp
  cases hp
theorem led_beg {b k : Nat} {q : Nat × Nat} {L : Leads} {E ms : List Nat} (h : Elim b L E ms) (hf : find L k = some q) : Span ms q.1 ∧ Beg q.1 k := by
  have hm := find_mem hf
  obtain ⟨l1, l2⟩ := h.low _ hm
  refine ⟨?_, l1, fun j hj => l2 j hj⟩
  rw [← (h.pk _ hm).2]
  exact sel_span _ _
/-- what is left of the masks when the bits below k are told -/
structure Lft (ms : List Nat) (k : Nat) (lf : List Nat) : Prop where
  len : lf.length = ms.length
  inn : ∀ a ∈ lf, Span ms a
  low : ∀ a ∈ lf, ∀ j, j < k → a.testBit j = false
  all : ∀ q, Span ms q → (∀ j, j < k → q.testBit j = false) → Span lf q
/-- a bit is free just if nothing that is left begins there -/
theorem Lft.free {b k : Nat} {L : Leads} {E ms lf : List Nat} (h : Lft ms k lf) (he : Elim b L E ms) (hk : k < b) : isFr L k = true ↔ lf.filter (fun a => a.testBit k) = [] := by
  unfold isFr
  constructor
  · intro hf
    have hf : find L k = none := by simpa using hf
    refine List.filter_eq_nil_iff.mpr fun a ha e => ?_
    exact beg_led he (h.inn a ha) ⟨e, h.low a ha⟩ hk hf
  · intro h0
    cases hf : find L k with
    | none => rfl
    | some q =>
      exfalso
      obtain ⟨g1, g2⟩ := led_beg he hf
      have := span_bit0 (t := k) (fun a ha => by
        have := List.filter_eq_nil_iff.mp h0 a ha
        simpa using this) (h.all q.1 g1 g2.2)
      rw [g2.1] at this
      cases this
end PG
namespace PG
open DN Gf
open L2 (Key)
open PySem (PyData Str)
theorem span_app : ∀ {A B : List Nat} {x : Nat}, Span (A ++ B) x → ∃ a c, Span A a ∧ Span B c ∧ x = a ^^^ c
  | [], B, x, h => ⟨0, x, .nil, h, by simp⟩
  | q :: A, B, x, h => by
    cases h with
    | out h =>
      obtain ⟨a, c, h1, h2, e⟩ := span_app h
      exact ⟨a, c, .out h1, h2, e⟩
    | inn h =>
      obtain ⟨a, c, h1, h2, e⟩ := span_app h
      exact ⟨q ^^^ a, c, .inn h1, h2, by rw [e, Nat.xor_assoc]⟩
end PG
namespace PG
open DN Gf
open L2 (Key)
open PySem (PyData Str)
def col (rs : List Nat) (S k : Nat) : Nat := vec rs (2 ^ k) &&& S
def rp1 (s p : Nat × Nat) : Nat × Nat := if s.1 ^^^ p.1 < s.1 then (s.1 ^^^ p.1, s.2 ^^^ p.2) else s
def rp (L : List (Nat × Nat)) (s : Nat × Nat) : Nat × Nat := L.foldl rp1 s
theorem rp_fst : ∀ (L : List (Nat × Nat)) (s : Nat × Nat), (rp L s).1 = cnt (L.map (·.1)) s.1
  | [], s => rfl
  | p :: L, s => by
    have e : (rp1 s p).1 = min s.1 (s.1 ^^^ p.1) := by
      unfold rp1
      by_cases h : s.1 ^^^ p.1 < s.1
      · rw [if_pos h]; show s.1 ^^^ p.1 = _; omega
      · rw [if_neg h]; omega
    have := rp_fst L (rp1 s p)
    rw [e] at this
    exact this
theorem rp_span : ∀ (L : List (Nat × Nat)) (s : Nat × Nat), SpanP L (s.1 ^^^ (rp L s).1) (s.2 ^^^ (rp L s).2)
  | [], s => by
    show SpanP [] (s.1 ^^^ s.1) (s.2 ^^^ s.2)
    rw [Nat.xor_self, Nat.xor_self]
    exact .nil
  | p :: L, s => by
    have ih := rp_span L (rp1 s p)
    have e : rp (p :: L) s = rp L (rp1 s p) := rfl
    rw [e]
    generalize rp L (rp1 s p) = r at *
    unfold rp1 at ih
    split at ih
    · refine SpanP.cast (.inn ih) ?_ ?_
      · show p.1 ^^^ (s.1 ^^^ p.1 ^^^ r.1) = s.1 ^^^ r.1
        rw [Nat.xor_comm s.1 p.1, Nat.xor_assoc, Gf.xor_x]
      · show p.2 ^^^ (s.2 ^^^ p.2 ^^^ r.2) = s.2 ^^^ r.2
        rw [Nat.xor_comm s.2 p.2, Nat.xor_assoc, Gf.xor_x]
    · exact .out ih
theorem spanP_lin {rs : List Nat} {S : Nat} : ∀ {L : List (Nat × Nat)} {x y : Nat}, (∀ p ∈ L, p.1 = vec rs p.2 &&& S) → SpanP L x y → x = vec rs y &&& S
  | _, _, _, _, .nil => by rw [vec_zero, Nat.zero_and]
  | _, _, _, h, .out q => spanP_lin (fun p hp => h p (List.mem_cons_of_mem _ hp)) q
  | _, _, _, h, .inn q => by
    have ih := spanP_lin (fun p hp => h p (List.mem_cons_of_mem _ hp)) q
    rw [vec_xor, Nat.and_xor_distrib_right, ← ih, ← h _ List.mem_cons_self]
theorem spanP_zero {L : List (Nat × Nat)} {x y : Nat} (e : Ech (tops (L.map (·.1)))) (nz : ∀ p ∈ L, p.1 ≠ 0) (q : SpanP L x y) (h0 : x = 0) : y = 0 := by
  induction q with
  | nil => rfl
  | out q ih => exact ih e.2.2 (fun p hp => nz p (List.mem_cons_of_mem _ hp)) h0
  | @inn p L x y q ih =>
    obtain ⟨e1, e2, e3⟩ := e
    have hx : p.1 = x := Gf.xor_eq_zero.mp h0
    have h1 := q.fst
    rw [← tops_snd (L.map (·.1))] at h1
    have h2 := Ech.span_bit e2 h1
    rw [← hx] at h2
    have h3 : p.1.testBit p.1.log2 = false := h2
    rw [top_bit (nz p List.mem_cons_self)] at h3
    cases h3
structure Lk (rs : List Nat) (S : Nat) (d : List Nat) (left : List (Nat × Nat)) (Q : List Nat) : Prop where
  kl : Kept (left.map (·.1)) (d.map (col rs S))
  lc : ∀ p ∈ left, p.1 = vec rs p.2 &&& S ∧ ∀ j, p.2.testBit j = true → j ∈ d
  kq : ∃ raw, Kept Q raw
  qc : ∀ q ∈ Q, vec rs q &&& S = 0 ∧ ∀ j, q.testBit j = true → j ∈ d
  sp : ∀ k ∈ d, Span (left.map (·.2) ++ Q) (2 ^ k)
  ln : left.length + Q.length = d.length
theorem Lk.nil (rs : List Nat) (S : Nat) : Lk rs S [] [] [] := ⟨⟨fun _ h => (nomatch h), Basis.nil⟩, fun _ h => (nomatch h), ⟨[], ⟨fun _ h => (nomatch h), Basis.nil⟩⟩, fun _ h => (nomatch h), fun _ h => (nomatch h), rfl⟩
section
variable {rs d Q : List Nat} {S k : Nat} {left : List (Nat × Nat)}
theorem Lk.pre (h : Lk rs S d left Q) : (rp left (col rs S k, 2 ^ k)).1 = vec rs (rp left (col rs S k, 2 ^ k)).2 &&& S ∧ (∀ j, (rp left (col rs S k, 2 ^ k)).2.testBit j = true → j ∈ d ++ [k]) ∧ Span (left.map (·.2)) (2 ^ k ^^^ (rp left (col rs S k, 2 ^ k)).2) := by
  have hs := rp_span left (col rs S k, 2 ^ k)
  generalize rp left (col rs S k, 2 ^ k) = c at *
  have h1 := spanP_lin (fun p hp => (h.lc p hp).1) hs
  have h2 := hs.snd
  refine ⟨?_, fun j hj => ?_, h2⟩
  · simp only [vec_xor, Nat.and_xor_distrib_right] at h1
    have : col rs S k ^^^ c.1 = col rs S k ^^^ (vec rs c.2 &&& S) := h1
    have := congrArg (fun z => col rs S k ^^^ z) this
    simpa [Gf.xor_x] using this
  · by_cases hd : j ∈ d
    · exact List.mem_append_left _ hd
    · have := span_bit0 (t := j) (fun q hq => by
        obtain ⟨p, hp, rfl⟩ := List.mem_map.mp hq
        cases hb : p.2.testBit j with
        | false => rfl
        | true => exact absurd ((h.lc p hp).2 j hb) hd) h2
      rw [Nat.testBit_xor, hj, Nat.testBit_two_pow] at this
      have : k = j := by simpa using this
      rw [this]
      simp
theorem Lk.more (h : Lk rs S d left Q) (h0 : (rp left (col rs S k, 2 ^ k)).1 ≠ 0) : Lk rs S (d ++ [k]) (left ++ [rp left (col rs S k, 2 ^ k)]) Q := by
  obtain ⟨p1, p2, p3⟩ := h.pre (k := k)
  have e := rp_fst left (col rs S k, 2 ^ k)
  generalize rp left (col rs S k, 2 ^ k) = c at *
  have e : c.1 = cnt (left.map (·.1)) (col rs S k) := e
  refine ⟨?_, fun p hp => ?_, h.kq, fun q hq => ?_, fun j hj => ?_, by have := h.ln; simp; omega⟩
  · rw [List.map_append, List.map_append, List.map_singleton, List.map_singleton, e]
    exact h.kl.step.2 (by rw [← e]; exact h0)
  · rcases List.mem_append.mp hp with hp | hp
    · exact ⟨(h.lc p hp).1, fun j hj => List.mem_append_left _ ((h.lc p hp).2 j hj)⟩
    · rw [List.mem_singleton.mp hp]
      exact ⟨p1, p2⟩
  · exact ⟨(h.qc q hq).1, fun j hj => List.mem_append_left _ ((h.qc q hq).2 j hj)⟩
  · have sub : ∀ x ∈ left.map (·.2) ++ Q, x ∈ (left ++ [c]).map (·.2) ++ Q := fun x hx => by
      rw [List.map_append]
      rcases List.mem_append.mp hx with hx | hx
      · exact List.mem_append_left _ (List.mem_append_left _ hx)
      · exact List.mem_append_right _ hx
    rcases List.mem_append.mp hj with hj | hj
    · exact (h.sp j hj).of_mem sub
    · rw [List.mem_singleton.mp hj]
      have a1 : Span ((left ++ [c]).map (·.2) ++ Q) (2 ^ k ^^^ c.2) := p3.of_mem fun x hx => sub x (List.mem_append_left _ hx)
      have a2 : Span ((left ++ [c]).map (·.2) ++ Q) c.2 := .mem (by simp)
      have := a1.xor a2
      rwa [Nat.xor_assoc, Nat.xor_self, Nat.xor_zero] at this
theorem Lk.keep (h : Lk rs S d left Q) (hk : k ∉ d) (h0 : (rp left (col rs S k, 2 ^ k)).1 = 0) : Lk rs S (d ++ [k]) left (Q ++ [cnt Q (rp left (col rs S k, 2 ^ k)).2]) := by
  obtain ⟨p1, p2, p3⟩ := h.pre (k := k)
  have e := rp_fst left (col rs S k, 2 ^ k)
  generalize rp left (col rs S k, 2 ^ k) = c at *
  have e : c.1 = cnt (left.map (·.1)) (col rs S k) := e
  obtain ⟨raw, kq⟩ := h.kq
  obtain ⟨_, c2⟩ := cnt_spec Q c.2 kq.bas.ech kq.nz
  have nz : cnt Q c.2 ≠ 0 := fun z => by
    rw [z, Nat.xor_zero] at c2
    have b1 := span_bit0 (t := k) (fun q hq => by
      cases hb : q.testBit k with
      | false => rfl
      | true => exact absurd ((h.qc q hq).2 k hb) hk) c2
    have b2 := span_bit0 (t := k) (fun q hq => by
      obtain ⟨p, hp, rfl⟩ := List.mem_map.mp hq
      cases hb : p.2.testBit k with
      | false => rfl
      | true => exact absurd ((h.lc p hp).2 k hb) hk) p3
    rw [Nat.testBit_xor, b1, Nat.testBit_two_pow] at b2
    simp at b2
  have kerQ : ∀ {x : Nat}, Span Q x → vec rs x &&& S = 0 ∧ ∀ j, x.testBit j = true → j ∈ d := fun {x} hx => by
    have gen : ∀ {Q' : List Nat} {x : Nat}, (∀ q ∈ Q', vec rs q &&& S = 0) → Span Q' x → vec rs x &&& S = 0 := by
      intro Q' x hq hx
      induction hx with
      | nil => rw [vec_zero, Nat.zero_and]
      | out _ ih => exact ih fun q h => hq q (List.mem_cons_of_mem _ h)
      | inn _ ih =>
        rw [vec_xor, Nat.and_xor_distrib_right, hq _ List.mem_cons_self, ih fun q h => hq q (List.mem_cons_of_mem _ h)]
        rfl
    refine ⟨gen (fun q hq => (h.qc q hq).1) hx, fun j hj => Classical.byContradiction fun z => ?_⟩
    have := span_bit0 (t := j) (fun q hq => by
      cases hb : q.testBit j with
      | false => rfl
      | true => exact absurd ((h.qc q hq).2 j hb) z) hx
    rw [this] at hj
    cases hj
  obtain ⟨g1, g2⟩ := kerQ c2
  refine ⟨?_, fun p hp => ⟨(h.lc p hp).1, fun j hj => List.mem_append_left _ ((h.lc p hp).2 j hj)⟩, ⟨_, kq.step.2 nz⟩, fun q hq => ?_, fun j hj => ?_, by have := h.ln; simp; omega⟩
  · rw [List.map_append, List.map_singleton]
    exact h.kl.step.1 (by rw [← e]; exact h0)
  · rcases List.mem_append.mp hq with hq | hq
    · exact ⟨(h.qc q hq).1, fun j hj => List.mem_append_left _ ((h.qc q hq).2 j hj)⟩
    · rw [List.mem_singleton.mp hq]
      refine ⟨?_, fun j hj => ?_⟩
      · rw [vec_xor, Nat.and_xor_distrib_right, ← p1, h0, Nat.zero_xor] at g1
        exact g1
      · by_cases hjd : j ∈ d
        · exact List.mem_append_left _ hjd
        · have : (c.2 ^^^ cnt Q c.2).testBit j = false := by
            cases hb : (c.2 ^^^ cnt Q c.2).testBit j with
            | false => rfl
            | true => exact absurd (g2 j hb) hjd
          rw [Nat.testBit_xor, hj] at this
          exact p2 j (by simpa using this)
  · have sub : ∀ x ∈ left.map (·.2) ++ Q, x ∈ left.map (·.2) ++ (Q ++ [cnt Q c.2]) := fun x hx => by
      rcases List.mem_append.mp hx with hx | hx
      · exact List.mem_append_left _ hx
      · exact List.mem_append_right _ (List.mem_append_left _ hx)
    rcases List.mem_append.mp hj with hj | hj
    · exact (h.sp j hj).of_mem sub
    · rw [List.mem_singleton.mp hj]
      have a1 : Span (left.map (·.2) ++ (Q ++ [cnt Q c.2])) (2 ^ k ^^^ c.2) := p3.of_mem fun x hx => List.mem_append_left _ hx
      have a2 : Span (left.map (·.2) ++ (Q ++ [cnt Q c.2])) (c.2 ^^^ cnt Q c.2) := c2.of_mem fun x hx => List.mem_append_right _ (List.mem_append_left _ hx)
      have a3 : Span (left.map (·.2) ++ (Q ++ [cnt Q c.2])) (cnt Q c.2) := .mem (by simp)
      have := (a1.xor a2).xor a3
      rw [Nat.xor_assoc, Nat.xor_assoc, Nat.xor_assoc, Nat.xor_self, Nat.xor_zero, Nat.xor_self, Nat.xor_zero] at this
      exact this
/-- what changes nothing is made of what is kept -/
theorem Lk.all (h : Lk rs S d left Q) {b x : Nat} (hx : x < 2 ^ b) (hb : ∀ j, x.testBit j = true → j ∈ d) (h0 : vec rs x &&& S = 0) : Span Q x := by
  have hs : Span (left.map (·.2) ++ Q) x := by
    have : Span (d.map fun i => 2 ^ i) x := span_units hx hb
    exact this.sub fun q hq => by
      obtain ⟨i, hi, rfl⟩ := List.mem_map.mp hq
      exact h.sp i hi
  obtain ⟨a, c, h1, h2, rfl⟩ := span_app hs
  obtain ⟨y, hy⟩ := SpanP.of_snd h1
  have e1 := spanP_lin (fun p hp => (h.lc p hp).1) hy
  have e2 : vec rs c &&& S = 0 := by
    have gen : ∀ {Q' : List Nat} {x : Nat}, (∀ q ∈ Q', vec rs q &&& S = 0) → Span Q' x → vec rs x &&& S = 0 := by
      intro Q' x hq hx
      induction hx with
      | nil => rw [vec_zero, Nat.zero_and]
      | out _ ih => exact ih fun q h => hq q (List.mem_cons_of_mem _ h)
      | inn _ ih =>
        rw [vec_xor, Nat.and_xor_distrib_right, hq _ List.mem_cons_self, ih fun q h => hq q (List.mem_cons_of_mem _ h)]
        rfl
    exact gen (fun q hq => (h.qc q hq).1) h2
  rw [vec_xor, Nat.and_xor_distrib_right, e2, Nat.xor_zero] at h0
  rw [h0] at e1
  have := spanP_zero h.kl.bas.ech (fun p hp => h.kl.nz _ (List.mem_map.mpr ⟨p, hp, rfl⟩)) hy e1
  rw [this, Nat.zero_xor]
  exact h2
end
end PG
namespace PG
open DN Gf
open L2 (Key)
open PySem (PyData Str)
end PG
namespace PG
open DN Gf
open L2 (Key)
open PySem (PyData Str)
end PG
namespace PG
open DN Gf
open L2 (Key)
open PySem (PyData Str)
def adr (a p : Nat) : Nat := andN p (2 ^ a) * 2 ||| 1
def ahd (S : Nat) (q : Nat × Nat) : Nat := q.1 ^^^ (q.1 ^^^ q.2) &&& S
def tnb (a : Nat) (q : Nat × Nat) : Nat := ((q.1 ^^^ q.2).testBit a).toNat
def stM (π : List Nat) (n : Nat) (ps : List (Nat × Nat)) : List Nat := (ps.map fun q => adr (π.getD n 0) (ahd (mk (π.take n)) q)) ++ [2 * 2 ^ π.getD n 0]
def stO (π : List Nat) (n : Nat) (ps : List (Nat × Nat)) : List Nat := (ps.map fun q => tnb (π.getD n 0) q) ++ [0]
end PG
namespace PG
open DN Gf
open L2 (Key)
open PySem (PyData Str)
/-- the stages that a list of ways lets -/
noncomputable def stS (b : Nat) (π : List Nat) (n : Nat) (ps : List (Nat × Nat)) : List Nat := sols (b + 1) (stM π n ps) (onesOf (stO π n ps))
end PG
namespace PG
open DN Gf
open L2 (Key)
open PySem (PyData Str)
end PG
namespace PG
open DN Gf
open L2 (Key)
open PySem (PyData Str)
noncomputable def x0 (b : Nat) (π : List Nat) (ps : List (Nat × Nat)) (n : Nat) : Nat := (stS b π n ps).getD 0 0
end PG
namespace PG
open DN Gf
open L2 (Key)
open PySem (PyData Str)
end PG
namespace PG
open DN Gf
open L2 (Key)
open PySem (PyData Str)
end PG
namespace PG
open DN Gf
open L2 (Key)
open PySem (PyData Str)
end PG
namespace PG
open DN Gf
open L2 (Key)
open PySem (PyData Str)
end PG
namespace PG
open DN Gf
open L2 (Key)
open PySem (PyData Str)
end PG
namespace DN
open L2 (Key)
end DN
namespace PG
open DN Gf
open L2 (Key)
open PySem (PyData Str)
end PG
namespace PG
open DN Gf
open L2 (Key)
open PySem (PyData Str)
end PG
namespace PG
open DN Gf
open L2 (Key)
open PySem (PyData Str)
end PG
namespace PG
open DN Gf
open L2 (Key)
open PySem (PyData Str)
end PG
namespace PG
open DN Gf
open L2 (Key)
open PySem (PyData Str)
end PG
namespace PG
open DN Gf
open L2 (Key)
open PySem (PyData Str)
end PG
namespace PG
open DN Gf
open L2 (Key)
open PySem (PyData Str)
end PG
namespace PG
open DN Gf
open L2 (Key)
open PySem (PyData Str)
end PG
namespace PG
open DN Gf
open L2 (Key)
open PySem (PyData Str)
/-- all mappings, each once -/
structure AllM (b : Nat) (E : List Mp) : Prop where
  nd : E.Nodup
  map : ∀ m ∈ E, Map b m
  all : ∀ m, Map b m → m ∈ E
section
variable {b : Nat} {ps : List (Nat × Nat)}
def agM (ps : List (Nat × Nat)) (m : Mp) : Bool := ps.all fun q => app m q.1 == q.2
theorem agM_iff {m : Mp} : agM ps m = true ↔ Agr m ps := agr_all
theorem cnt_splitA {α : Type} {f : α → Nat} {N : Nat} : ∀ {L : List α}, (∀ i ∈ L, f i < N) → L.length = ((List.range N).map fun g => (L.filter fun i => f i == g).length).sum
  | [], _ => by
    have : ((List.range N).map fun g => (([] : List α).filter fun i => f i == g).length) = List.replicate N 0 := by
      refine List.eq_replicate_iff.mpr ⟨by simp, fun x hx => ?_⟩
      obtain ⟨g, _, rfl⟩ := List.mem_map.mp hx
      rfl
    rw [this, List.sum_replicate_nat, Nat.mul_zero]; rfl
  | i :: L, h => by
    have ih := cnt_splitA (L := L) fun j hj => h j (List.mem_cons_of_mem _ hj)
    have hi := h i List.mem_cons_self
    have e : ((List.range N).map fun g => ((i :: L).filter fun j => f j == g).length) = (List.range N).map fun g => (if decide (g = f i) = true then 1 else 0) + (L.filter fun j => f j == g).length := by
      refine List.map_congr_left fun g _ => ?_
      rw [List.filter_cons]
      by_cases c : f i = g
      · simp [c]; omega
      · have c2 : ¬ g = f i := fun q => c q.symm
        simp [c, c2]
    have hs : ∀ (l : List Nat) (u v : Nat → Nat), (l.map fun g => u g + v g).sum = (l.map u).sum + (l.map v).sum := by
      intro l u v
      induction l with
      | nil => rfl
      | cons x l ih => rw [List.map_cons, List.map_cons, List.map_cons, List.sum_cons, List.sum_cons, List.sum_cons, ih]; omega
    have h1 : ((List.range N).filter fun g => decide (g = f i)).length = 1 := by
      have : ((List.range N).filter fun g => decide (g = f i)) = [f i] := asc_ext (List.Pairwise.filter _ (List.pairwise_lt_range ..)) (by simp) fun g => by
        rw [List.mem_filter, List.mem_singleton, decide_eq_true_eq, List.mem_range]
        exact ⟨fun q => q.2, fun q => ⟨by rw [q]; exact hi, q⟩⟩
      rw [this]; rfl
    rw [e, hs, ← ih, sum_ite, h1, List.length_cons]
    omega
/-- at most one mapping has all ends told -/
theorem agr_one {E : List Mp} (hE : AllM b E) (hall : ∀ x, x < 2 ^ b → ∃ q ∈ ps, q.1 = x) {m : Mp} (hm : m ∈ E) (ha : Agr m ps) : E.filter (agM ps) = [m] := by
  have key : ∀ n ∈ E, agM ps n = true ↔ n = m := fun n hn => by
    rw [agM_iff]
    constructor
    · intro h
      refine app_ext (hE.map n hn) (hE.map m hm) fun x hx => ?_
      obtain ⟨q, hq, rfl⟩ := hall x hx
      rw [h q hq, ha q hq]
    · rintro rfl; exact ha
  have hnd := hE.nd
  clear hE
  induction E with
  | nil => cases hm
  | cons n E ih =>
    obtain ⟨n1, n2⟩ := List.nodup_cons.mp hnd
    rcases List.mem_cons.mp hm with rfl | hm
    · rw [List.filter_cons_of_pos ((key m List.mem_cons_self).mpr rfl)]
      congr 1
      refine List.filter_eq_nil_iff.mpr fun k hk h => ?_
      have := (key k (List.mem_cons_of_mem _ hk)).mp h
      exact n1 (this ▸ hk)
    · rw [List.filter_cons_of_neg fun h => n1 ((key n List.mem_cons_self).mp h ▸ hm)]
      exact ih hm (fun k hk => key k (List.mem_cons_of_mem _ hk)) n2
theorem list_agr_in {E : List Mp} (h1 : 1 ≤ b) (hb : b ≤ 5) (hE : AllM b E) : ∀ (t : List Nat) (ps : List (Nat × Nat)), ps.length + t.length ≤ 100 → (∀ x ∈ t, x < 2 ^ b) → Ways b ps → (∀ x, x < 2 ^ b → x ∈ t ∨ ∃ q ∈ ps, q.1 = x) → (E.filter (agM ps)).length = agrN b ps := by
  intro t
  induction t with
  | nil =>
    intro ps hl _ hw hall
    have hall' : ∀ x, x < 2 ^ b → ∃ q ∈ ps, q.1 = x := fun x hx => (hall x hx).elim (fun h => nomatch h) id
    by_cases hf : Fn (mkP b ps)
    · obtain ⟨M, _, _, k1, k2, _⟩ := p_some_mapping h1 (show b ≤ 60 by omega) (by simpa using hl) hw hf
      rw [agr_one hE hall' (hE.all M k1) k2, agrN_fn hf]
      -- all places: full rank
      have hk : kR b ps = b + 1 := by
        have hkb : kR b ps ≤ b + 1 := rk_le_b1 hw
        have : 2 ^ (b + 1) ≤ 2 ^ kR b ps := by
          obtain ⟨S, ⟨nd, hS⟩, hlS⟩ := lists_ex ((mkP b ps).map (·.1))
          show 2 ^ (b + 1) ≤ 2 ^ rk ((mkP b ps).map (·.1))
          rw [← hlS]
          have hsp : ∀ x, x < 2 ^ b → Span ((mkP b ps).map (·.1)) (x ||| 2 ^ b) := fun x hx => by
            obtain ⟨q, hq, rfl⟩ := hall' x hx
            refine Span.mem ?_
            rw [mkP_fst]
            exact List.mem_map.mpr ⟨q.1, List.mem_map.mpr ⟨q, hq, rfl⟩, rfl⟩
          have := len_sub (S := List.range (2 ^ (b + 1))) (T := S) List.nodup_range fun z hz => (hS z).mpr (by
            have hz := List.mem_range.mp hz
            cases hb : z.testBit b with
            | true => rw [← mark_of hz hb]; exact hsp _ (Nat.mod_lt _ (Nat.two_pow_pos b))
            | false =>
              have hz' : z < 2 ^ b := by
                refine Nat.lt_pow_two_of_testBit _ fun i hi => ?_
                rcases Nat.lt_or_eq_of_le hi with hi | rfl
                · exact Nat.testBit_lt_two_pow (Nat.lt_of_lt_of_le hz (Nat.pow_le_pow_right (by decide) hi))
                · exact hb
              have := (hsp z hz').xor (hsp 0 (Nat.two_pow_pos b))
              rwa [mark_xor hz' (Nat.two_pow_pos b), Nat.xor_zero] at this)
          rwa [List.length_range] at this
        have := (Nat.pow_le_pow_iff_right (a := 2) (by decide)).mp this
        omega
      rw [hk, cntA_top]
      rfl
    · rw [agrN_no hf]
      refine List.length_eq_zero_iff.mpr (List.filter_eq_nil_iff.mpr fun m hm h => ?_)
      exact hf (agr_fn (hE.map m hm) hw (agM_iff.mp h))
  | cons x t ih =>
    intro ps hl ht hw hall
    by_cases hf : Fn (mkP b ps)
    · have hx := ht x List.mem_cons_self
      rw [List.length_cons] at hl
      obtain ⟨M, _, _, k1, k2, _⟩ := p_some_mapping h1 (show b ≤ 60 by omega) (show ps.length ≤ 100 by omega) hw hf
      rw [← parts_sum h1 hw k1 k2 hx, cnt_splitA (f := fun m => app m x) (N := 2 ^ b) fun m hm => app_lt (hE.map m (List.mem_filter.mp hm).1) x]
      congr 1
      refine List.map_congr_left fun g hg => ?_
      have hg := List.mem_range.mp hg
      have hw2 : Ways b (ps ++ [(x, g)]) := fun q hq => by
        rcases List.mem_append.mp hq with hq | hq
        · exact hw q hq
        · rw [List.mem_singleton.mp hq]; exact ⟨hx, hg⟩
      rw [← ih (ps ++ [(x, g)]) (by rw [List.length_append, List.length_singleton]; omega) (fun y hy => ht y (List.mem_cons_of_mem _ hy)) hw2 fun y hy => by
        rcases hall y hy with h | ⟨q, hq, e⟩
        · rcases List.mem_cons.mp h with rfl | h
          · exact .inr ⟨(y, g), by simp, rfl⟩
          · exact .inl h
        · exact .inr ⟨q, List.mem_append_left _ hq, e⟩]
      rw [List.filter_filter]
      congr 1
      refine List.filter_congr fun m _ => ?_
      unfold agM
      rw [List.all_append, List.all_cons, List.all_nil, Bool.and_true, Bool.and_comm]
    · rw [agrN_no hf]
      refine List.length_eq_zero_iff.mpr (List.filter_eq_nil_iff.mpr fun m hm h => ?_)
      exact hf (agr_fn (hE.map m hm) hw (agM_iff.mp h))
/-- the number of the listed mappings that agree -/
theorem list_agr {E : List Mp} (h1 : 1 ≤ b) (hb : b ≤ 5) (hE : AllM b E) (hl : ps.length ≤ 60) (hw : Ways b ps) : (E.filter (agM ps)).length = agrN b ps := by
  have hp2 : 2 ^ b ≤ 2 ^ 5 := Nat.pow_le_pow_right (by decide) hb
  exact list_agr_in h1 hb hE (List.range (2 ^ b)) ps (by rw [List.length_range]; omega) (fun x hx => List.mem_range.mp hx) hw fun x hx => .inl (List.mem_range.mpr hx)
end
end PG
namespace PG
open DN Gf
open L2 (Key)
open PySem (PyData Str)
def decM (b n : Nat) : Mp := ((List.range b).map fun k => n / 2 ^ (b * (k + 1)) % 2 ^ b, n % 2 ^ b)
def codR (b : Nat) : List Nat → Nat
  | [] => 0
  | r :: rs => r + 2 ^ b * codR b rs
def codM (b : Nat) (m : Mp) : Nat := m.2 + 2 ^ b * codR b m.1
def okM (b : Nat) (m : Mp) : Bool := (List.range (2 ^ b)).all fun p => p == 0 || sel m.1 p != 0
def allE (b : Nat) : List Mp := ((List.range (2 ^ (b * (b + 1)))).map (decM b)).filter (okM b)
def lnE (b : Nat) (m : Mp) : List Nat := (List.range (2 ^ b)).map (app m)
def evD (b : Nat) (m : Mp) : D := .lst ((lnE b m).map iN)
theorem dec_cod1 : ∀ n ∈ List.range (2 ^ (1 * (1 + 1))), codM 1 (decM 1 n) = n := by decide +kernel
theorem dec_cod2 : ∀ n ∈ List.range (2 ^ (2 * (2 + 1))), codM 2 (decM 2 n) = n := by decide +kernel
theorem dec_cod3 : ∀ n ∈ List.range (2 ^ (3 * (3 + 1))), codM 3 (decM 3 n) = n := by decide +kernel
theorem cod_dec1 : ∀ r ∈ List.range 2, ∀ o ∈ List.range 2, decM 1 (codM 1 ([r], o)) = ([r], o) ∧ codM 1 ([r], o) < 2 ^ (1 * (1 + 1)) := by decide +kernel
theorem cod_dec2 : ∀ r ∈ List.range 4, ∀ s ∈ List.range 4, ∀ o ∈ List.range 4, decM 2 (codM 2 ([r, s], o)) = ([r, s], o) ∧ codM 2 ([r, s], o) < 2 ^ (2 * (2 + 1)) := by decide +kernel
theorem cod_dec3 : ∀ r ∈ List.range 8, ∀ s ∈ List.range 8, ∀ t ∈ List.range 8, ∀ o ∈ List.range 8, decM 3 (codM 3 ([r, s, t], o)) = ([r, s, t], o) ∧ codM 3 ([r, s, t], o) < 2 ^ (3 * (3 + 1)) := by decide +kernel
theorem dec_cod {b n : Nat} (h1 : 1 ≤ b) (hb : b ≤ 3) (hn : n ∈ List.range (2 ^ (b * (b + 1)))) : codM b (decM b n) = n := by
  obtain rfl | rfl | rfl : b = 1 ∨ b = 2 ∨ b = 3 := by omega
  · exact dec_cod1 n hn
  · exact dec_cod2 n hn
  · exact dec_cod3 n hn
theorem cod_dec {b : Nat} {m : Mp} (h1 : 1 ≤ b) (hb : b ≤ 3) (h : Map b m) : decM b (codM b m) = m ∧ codM b m < 2 ^ (b * (b + 1)) := by
  obtain ⟨rs, o⟩ := m
  have hl := h.len
  have hr := h.row
  have ho := h.off
  simp only at hl hr ho
  obtain rfl | rfl | rfl : b = 1 ∨ b = 2 ∨ b = 3 := by omega
  · match rs, hl, hr with
    | [r], _, hr => exact cod_dec1 r (List.mem_range.mpr (hr r (by simp))) o (List.mem_range.mpr ho)
  · match rs, hl, hr with
    | [r, s], _, hr => exact cod_dec2 r (List.mem_range.mpr (hr r (by simp))) s (List.mem_range.mpr (hr s (by simp))) o (List.mem_range.mpr ho)
  · match rs, hl, hr with
    | [r, s, t], _, hr => exact cod_dec3 r (List.mem_range.mpr (hr r (by simp))) s (List.mem_range.mpr (hr s (by simp))) t (List.mem_range.mpr (hr t (by simp))) o (List.mem_range.mpr ho)
theorem allE_all {b : Nat} (h1 : 1 ≤ b) (hb : b ≤ 3) : AllM b (allE b) := by
  have hnd : ((List.range (2 ^ (b * (b + 1)))).map (decM b)).Nodup := by
    refine List.pairwise_map.mpr (List.Pairwise.imp_of_mem ?_ (List.nodup_range (n := 2 ^ (b * (b + 1)))))
    intro x y hx hy ne e
    refine ne ?_
    have := congrArg (codM b) e
    rwa [dec_cod h1 hb hx, dec_cod h1 hb hy] at this
  refine ⟨hnd.filter _, fun m hm => ?_, fun m hm => ?_⟩
  · obtain ⟨q, ho⟩ := List.mem_filter.mp hm
    obtain ⟨n, hn, rfl⟩ := List.mem_map.mp q
    have hp := Nat.two_pow_pos b
    refine Map.of_inj (by unfold decM; simp) (fun r hr => ?_) (Nat.mod_lt _ hp) fun p hp' e => ?_
    · unfold decM at hr
      obtain ⟨k, _, rfl⟩ := List.mem_map.mp hr
      exact Nat.mod_lt _ hp
    · have := List.all_eq_true.mp ho p (List.mem_range.mpr hp')
      rw [e] at this
      simpa using this
  · obtain ⟨e, q⟩ := cod_dec h1 hb hm
    refine List.mem_filter.mpr ⟨List.mem_map.mpr ⟨_, List.mem_range.mpr q, e⟩, List.all_eq_true.mpr fun p hp => ?_⟩
    by_cases c : p = 0
    · simp [c]
    · have : sel m.1 p ≠ 0 := fun z => c (hm.ind (List.mem_range.mp hp) z)
      simp [this]
end PG
namespace PG
open DN Gf
open L2 (Key)
open PySem (PyData Str)
section
variable {b : Nat} {π : List Nat} {ps : List (Nat × Nat)}
theorem sure_same {m n : Mp} {x : Nat} (h1 : 1 ≤ b) (hb : b ≤ 60) (hl : ps.length ≤ 100) (hw : Ways b ps) (h : Map b m) (ha : Agr m ps) (h' : Map b n) (ha' : Agr n ps) (hx : x < 2 ^ b) (hs : SureB b ps x = true) : app m x = app n x := by
  have e1 := p_sure h1 hb hl hw h ha hx
  have e2 := p_sure h1 hb hl hw h' ha' hx
  rw [hs, if_pos rfl] at e1 e2
  rw [e1] at e2
  injection e2 with _ e2
  injection e2 with e2
  have : D.int (app m x : Int) = D.int (app n x : Int) := e2
  injection this with this
  omega
end
end PG
namespace PG
open DN Gf
open L2 (Key)
open PySem (PyData Str)
section
variable {b : Nat} {ps : List (Nat × Nat)} {m : Mp} {E : List Mp}
def fD (own : Bool) (d : D) : Sl := if own then .own d else .fz d
theorem evD_ix {x : Nat} (hx : x < 2 ^ b) : gIx (evD b m) (iN x) = some (.fz (iN (app m x))) := by
  unfold evD
  rw [gIx_lst]
  unfold lnE
  simp [hx]
theorem p_agreeing52 (hb : b ≤ 5) (hE : E.length ≤ 2000) (hl : ps.length ≤ 100) (hw : Ways b ps) : ∃ o : Bool, d__law_agreeing [.lst (E.map (evD b)), .lst (ps.map tN)] = .ok [] (if o then .own (.lst ((E.filter (agM ps)).map (evD b))) else .fz (.lst ((E.filter (agM ps)).map (evD b)))) := by
  obtain ⟨ρ', e, o, y3, y4, rfl⟩ := loop_l (g := storeN [3, 4]) (b := x__law_agreeing_2) tN (fun d ρ => ∃ (o : Bool) (y3 y4 : Sl), ρ = [.fz (.lst (E.map (evD b))), .ln (.lst (ps.map tN)), fD o (.lst ((E.filter (agM d)).map (evD b))), y3, y4, .un]) (xs := ps) (ρ := [.fz (.lst (E.map (evD b))), .ln (.lst (ps.map tN)), .fz (.lst (E.map (evD b))), .un, .un, .un]) ⟨false, .un, .un, by
      have : E.filter (agM []) = E := List.filter_eq_self.mpr fun a _ => rfl
      rw [this]; rfl⟩ (by
    rintro d ⟨x, g⟩ t ρ hx ⟨o, y3, y4, rfl⟩
    have hq := hw (x, g) (by rw [hx]; simp)
    simp only at hq
    have hfl : (E.filter (agM d)).length ≤ 2000 := Nat.le_trans (List.length_filter_le ..) hE
    have e1 := fun s2 => lc_filter (g := store 5) (t := x__law_agreeing_1) (f := dVar 5) (vs := [5]) (ρ := [.fz (.lst (E.map (evD b))), .ln (.lst (ps.map tN)), s2, .fz (iN x), .fz (iN g), .un]) (evD b) (fun m => app m x == g) (evD b) (xs := E.filter (agM d)) (fun n hn => by
      have ei : gIx (evD b n) (iN x) = _ := evD_ix hq.1
      generalize evD b n = V at *
      generalize E.map (evD b) = EE at *
      generalize ps.map tN = T at *
      by_cases c : app n x = g
      · simp [x__law_agreeing_1, ei, c]
      · simp [x__law_agreeing_1, ei, c]) (by omega)
    have e2 : (E.filter (agM d)).filter (fun m => app m x == g) = E.filter (agM (d ++ [(x, g)])) := by
      rw [List.filter_filter]
      refine List.filter_congr fun n _ => ?_
      unfold agM
      rw [List.all_append, List.all_cons, List.all_nil, Bool.and_true, Bool.and_comm]
    rw [e2] at e1
    refine Goes.of (ρ := [.fz (.lst (E.map (evD b))), .ln (.lst (ps.map tN)), fD true (.lst ((E.filter (agM (d ++ [(x, g)]))).map (evD b))), .fz (iN x), .fz (iN g), .un]) ?_ ⟨true, _, _, rfl⟩
    clear hx e2
    generalize (E.filter (agM (d ++ [(x, g)]))).map (evD b) = Z2 at *
    generalize (E.filter (agM d)).map (evD b) = Z1 at *
    generalize E.map (evD b) = EE at *
    generalize ps.map tN = T at *
    cases o <;> simp [x__law_agreeing_2, fD, tN, e1])
  refine ⟨o, ?_⟩
  generalize (E.filter (agM ps)).map (evD b) = Z2 at *
  generalize E.map (evD b) = EE at *
  generalize ps.map tN = T at *
  cases o <;> simp [d__law_agreeing, b__law_agreeing, fD, e]
end
end PG
namespace PG
open DN Gf
open L2 (Key)
open PySem (PyData Str)
section
variable {b : Nat} {ps : List (Nat × Nat)} {m : Mp} {E : List Mp}
theorem ways_snoc52 {x y : Nat} (hw : Ways b ps) (hx : x < 2 ^ b) (hy : y < 2 ^ b) : Ways b (ps ++ [(x, y)]) := fun q hq => by
  rcases List.mem_append.mp hq with hq | hq
  · exact hw q hq
  · rw [List.mem_singleton.mp hq]; exact ⟨hx, hy⟩
def GO (E : List Mp) (ps : List (Nat × Nat)) (x : Nat) : List Nat := ssetN ((E.filter (agM ps)).map fun n => app n x)
theorem mem_GO {x g : Nat} : g ∈ GO E ps x ↔ ∃ n ∈ E, agM ps n = true ∧ app n x = g := by
  unfold GO
  rw [mem_ssetN, List.mem_map]
  constructor
  · rintro ⟨n, hn, e⟩
    obtain ⟨h1, h2⟩ := List.mem_filter.mp hn
    exact ⟨n, h1, h2, e⟩
  · rintro ⟨n, h1, h2, e⟩
    exact ⟨n, List.mem_filter.mpr ⟨h1, h2⟩, e⟩
theorem GO_iff {x g : Nat} (h1 : 1 ≤ b) (hb : b ≤ 5) (hE : AllM b E) (hl : ps.length ≤ 59) (hw : Ways b ps) (hx : x < 2 ^ b) (hg : g < 2 ^ b) : g ∈ GO E ps x ↔ Fn (mkP b (ps ++ [(x, g)])) := by
  have e := list_agr (ps := ps ++ [(x, g)]) h1 hb hE (by simp; omega) (ways_snoc52 hw hx hg)
  rw [mem_GO, ← agrN_pos, ← e, List.length_pos_iff_exists_mem]
  constructor
  · rintro ⟨n, hn, ha, rfl⟩
    refine ⟨n, List.mem_filter.mpr ⟨hn, agM_iff.mpr fun q hq => ?_⟩⟩
    rcases List.mem_append.mp hq with hq | hq
    · exact agM_iff.mp ha q hq
    · rw [List.mem_singleton.mp hq]
  · rintro ⟨n, hn⟩
    obtain ⟨k1, k2⟩ := List.mem_filter.mp hn
    have k3 := agM_iff.mp k2
    exact ⟨n, k1, agM_iff.mpr fun q hq => k3 q (List.mem_append_left _ hq), k3 (x, g) (by simp)⟩
theorem GO_sure {x : Nat} (h1 : 1 ≤ b) (hb : b ≤ 5) (hE : AllM b E) (hl : ps.length ≤ 59) (hw : Ways b ps) (hm : m ∈ E) (ha : Agr m ps) (hx : x < 2 ^ b) :
    (SureB b ps x = true ∧ GO E ps x = [app m x]) ∨ (SureB b ps x = false ∧ (GO E ps x).length ≠ 1) := by
  have hM := hE.map m hm
  have hin : app m x ∈ GO E ps x := mem_GO.mpr ⟨m, hm, agM_iff.mpr ha, rfl⟩
  cases c : SureB b ps x with
  | true =>
    refine .inl ⟨rfl, asc_ext (ssetN_lt _) (by simp) fun g => ?_⟩
    rw [List.mem_singleton]
    constructor
    · intro hg
      obtain ⟨n, hn, k, rfl⟩ := mem_GO.mp hg
      exact sure_same h1 (show b ≤ 60 by omega) (show ps.length ≤ 100 by omega) hw (hE.map n hn) (agM_iff.mp k) hM ha hx c
    · rintro rfl; exact hin
  | false =>
    refine .inr ⟨rfl, fun hlen => ?_⟩
    obtain ⟨_, _, f3, _⟩ := way_more h1 hw hM ha hx
    have hlt := f3.mpr (by rw [c]; decide)
    have hw2 := ways_snoc52 hw hx (app_lt hM x)
    have ha2 : Agr m (ps ++ [(x, app m x)]) := fun q hq => by
      rcases List.mem_append.mp hq with hq | hq
      · exact ha q hq
      · rw [List.mem_singleton.mp hq]
    have c1 := list_agr h1 hb hE (show ps.length ≤ 60 by omega) hw
    have c2 := list_agr (ps := ps ++ [(x, app m x)]) h1 hb hE (by simp; omega) hw2
    rw [agrN_fn (agr_fn hM hw ha)] at c1
    rw [agrN_fn (agr_fn hM hw2 ha2)] at c2
    have : E.filter (agM (ps ++ [(x, app m x)])) = E.filter (agM ps) := by
      refine List.filter_congr fun n hn => ?_
      cases d : agM ps n with
      | false =>
        refine Bool.eq_false_iff.mpr fun q => ?_
        have := agM_iff.mp q
        rw [agM_iff.mpr fun z hz => this z (List.mem_append_left _ hz)] at d
        cases d
      | true =>
        have hn2 : app n x ∈ GO E ps x := mem_GO.mpr ⟨n, hn, d, rfl⟩
        obtain ⟨y, hy⟩ := List.length_eq_one_iff.mp hlen
        rw [hy, List.mem_singleton] at hn2 hin
        refine agM_iff.mpr fun q hq => ?_
        rcases List.mem_append.mp hq with hq | hq
        · exact agM_iff.mp d q hq
        · rw [List.mem_singleton.mp hq]
          show app n x = app m x
          rw [hn2, hin]
    rw [this] at c2
    omega
end
end PG
namespace PG
open DN Gf
open L2 (Key)
open PySem (PyData Str)
section
variable {b : Nat} {ps : List (Nat × Nat)} {m : Mp} {E : List Mp}
theorem can52 {x g : Nat} (h1 : 1 ≤ b) (hb : b ≤ 5) (hE : AllM b E) (hl : ps.length ≤ 59) (hw : Ways b ps) (hm : m ∈ E) (ha : Agr m ps) (hx : x < 2 ^ b) (hg : g < 2 ^ b) :
    d_can_end [iN b, .lst (ps.map tN), iN x, iN g] = .ok [] (.fz (.bl (decide (g ∈ GO E ps x)))) := by
  rcases p_can_end h1 (show b ≤ 60 by omega) (show ps.length ≤ 99 by omega) hw (agr_fn (hE.map m hm) hw ha) hx hg with ⟨f, e⟩ | ⟨f, e⟩
  · rw [e, decide_eq_true ((GO_iff h1 hb hE hl hw hx hg).mpr f)]
  · rw [e, decide_eq_false fun q => f ((GO_iff h1 hb hE hl hw hx hg).mp q)]
theorem lines52 {x : Nat} {s3 s4 s5 s6 : Sl} {F : List Mp} (hF : F.length ≤ 2000) (hx : x < 2 ^ b) :
    lcLoop (store 7) dYes x__law_sure_right_k52_1 [7] (fzs (F.map (evD b))) [.ln (iN b), .ln (.lst (ps.map tN)), .ln (.lst (F.map (evD b))), .fz (iN x), s4, s5, s6, .un, .un] [] = some ([.ln (iN b), .ln (.lst (ps.map tN)), .ln (.lst (F.map (evD b))), .fz (iN x), s4, s5, s6, .un, .un], (F.map fun n => app n x).map iN) := by
  have e := lc_map (g := store 7) (t := dYes) (f := x__law_sure_right_k52_1) (vs := [7]) (ρ := [.ln (iN b), .ln (.lst (ps.map tN)), .ln (.lst (F.map (evD b))), .fz (iN x), s4, s5, s6, .un, .un]) (evD b) (fun n => iN (app n x)) (xs := F) (fun n hn => by
    have ei : gIx (evD b n) (iN x) = _ := evD_ix hx
    generalize evD b n = V at *
    generalize F.map (evD b) = EE at *
    generalize ps.map tN = T at *
    simp [x__law_sure_right_k52_1, ei]) (by omega)
  rw [List.map_map]
  exact e
theorem p_sure52 (h1 : 1 ≤ b) (hb : b ≤ 5) (hE : AllM b E) (hEl : E.length ≤ 2000) (hl : ps.length ≤ 59) (hw : Ways b ps) (hm : m ∈ E) (ha : Agr m ps) :
    d__law_sure_right_k52 [iN b, .lst (ps.map tN), .lst ((E.filter (agM ps)).map (evD b))] = .ok [] (.fz (.bl true)) := by
  have hp2 : 2 ^ b ≤ 2 ^ 5 := Nat.pow_le_pow_right (by decide) hb
  have hM := hE.map m hm
  have hF : (E.filter (agM ps)).length ≤ 2000 := Nat.le_trans (List.length_filter_le ..) hEl
  have hmF : m ∈ E.filter (agM ps) := List.mem_filter.mpr ⟨hm, agM_iff.mpr ha⟩
  have e0 := p_spots (b := b) (by omega)
  have hgo : ∀ x, gSortSet (.lst (((E.filter (agM ps)).map fun n => app n x).map iN)) = some (.own (.lst ((GO E ps x).map iN))) := fun x => gSortSetB (by rw [List.length_map]; omega) fun y hy => by
    obtain ⟨n, hn, rfl⟩ := List.mem_map.mp hy
    have := app_lt (hE.map n (List.mem_filter.mp hn).1) x
    omega
  have hlr : ((List.range (2 ^ b)).map iN).length = 2 ^ b := by simp
  obtain ⟨ρ', e, y3, y4, y5, y6, rfl⟩ := loop_l (g := store 3) (b := x__law_sure_right_k52_3) iN (fun d ρ => ∃ y3 y4 y5 y6, ρ = [.ln (iN b), .ln (.lst (ps.map tN)), .ln (.lst ((E.filter (agM ps)).map (evD b))), y3, y4, y5, y6, .un, .un]) (xs := List.range (2 ^ b)) (ρ := [.ln (iN b), .ln (.lst (ps.map tN)), .ln (.lst ((E.filter (agM ps)).map (evD b))), .un, .un, .un, .un, .un, .un]) ⟨_, _, _, _, rfl⟩ (by
    rintro d x t ρ hx ⟨y3, y4, y5, y6, rfl⟩
    have hxl : x < 2 ^ b := List.mem_range.mp (by rw [hx]; simp)
    have f1 := lines52 (ps := ps) (s3 := .un) (s4 := y4) (s5 := y5) (s6 := y6) hF hxl
    have f2 := hgo x
    have f3 := p_sure h1 (show b ≤ 60 by omega) (show ps.length ≤ 100 by omega) hw hM ha hxl
    have f4 := fun (s5 s6 : Sl) => lc_filter (g := store 8) (t := x__law_sure_right_k52_2) (f := dVar 8) (vs := [8]) (ρ := [.ln (iN b), .ln (.lst (ps.map tN)), .ln (.lst ((E.filter (agM ps)).map (evD b))), .fz (iN x), .own (.lst ((GO E ps x).map iN)), s5, s6, .un, .un]) iN (fun _ => false) iN (xs := List.range (2 ^ b)) (fun g hg => by
      have hg := List.mem_range.mp hg
      have g1 := can52 h1 hb hE hl hw hm ha hxl hg
      have g2 := gIn_Ns g (GO E ps x)
      generalize (E.filter (agM ps)).map (evD b) = EE at *
      generalize ps.map tN = T at *
      generalize GO E ps x = GG at *
      by_cases c : g ∈ GG
      · simp [x__law_sure_right_k52_2, g1, g2, c]
      · simp [x__law_sure_right_k52_2, g1, g2, c]) (by rw [List.length_range]; omega)
    have hfe : (List.range (2 ^ b)).filter (fun _ => false) = [] := List.filter_eq_nil_iff.mpr fun _ _ => by decide
    rw [hfe, List.map_nil] at f4
    have hgl : (GO E ps x).length ≤ 32 := by
      have := nodup_le (n := 2 ^ b) ((ssetN_lt ((E.filter (agM ps)).map fun n => app n x)).imp fun h => Nat.ne_of_lt h) fun y hy => by
        obtain ⟨n, hn, rfl⟩ := List.mem_map.mp (mem_ssetN.mp hy)
        exact app_lt (hE.map n (List.mem_filter.mp hn).1) x
      unfold GO
      omega
    have hgl6 : ((GO E ps x).map iN).length = (GO E ps x).length := List.length_map ..
    have r1 : ∀ v : Nat, v < 2 ^ b → gRepr [.lst [iN v, iN v]] = some (.fz (.str (rT (.lst [iN v, iN v])))) := fun v hv => (Rk.two (Rk.nat (k := 60) (Nat.lt_of_lt_of_le hv (Nat.le_trans hp2 (by decide)))) (Rk.nat (k := 60) (Nat.lt_of_lt_of_le hv (Nat.le_trans hp2 (by decide))))).repr
    have r2 : gRepr [.lst [.non, .non]] = some (.fz (.str (rT (.lst [.non, .non])))) := (Rk.two (n := 0) (k := 10) .non .non).repr
    rcases GO_sure h1 hb hE hl hw hm ha hxl with ⟨c, hc⟩ | ⟨c, hc⟩
    · rw [c, if_pos rfl] at f3
      replace f3 : d_sure_end [iN b, .lst (ps.map tN), iN x] = .ok [] (.fz (iN (app m x))) := f3
      have r3 := r1 _ (app_lt hM x)
      rw [hc] at f2 f4
      simp only [List.map_cons, List.map_nil] at f2 f4
      refine Goes.of (ρ := [.ln (iN b), .ln (.lst (ps.map tN)), .ln (.lst ((E.filter (agM ps)).map (evD b))), .fz (iN x), .own (.lst [iN (app m x)]), .fz (iN (app m x)), .own (.lst [iN (app m x), iN (app m x)]), .un, .un]) ?_ ⟨_, _, _, _, rfl⟩
      clear hgo e0 hmF ha hx
      generalize ((E.filter (agM ps)).map fun n => app n x).map iN = LL at *
      generalize (E.filter (agM ps)).map (evD b) = EE at *
      generalize ps.map tN = T at *
      generalize app m x = z at *
      have e0 := p_spots (b := b) (by omega)
      generalize (List.range (2 ^ b)).map iN = RR at *
      simp [x__law_sure_right_k52_3, e0, f1, f2, f3, f4, r3]
    · rw [c, if_neg (by decide)] at f3
      replace f3 : d_sure_end [iN b, .lst (ps.map tN), iN x] = .ok [] (.fz .non) := f3
      refine Goes.of (ρ := [.ln (iN b), .ln (.lst (ps.map tN)), .ln (.lst ((E.filter (agM ps)).map (evD b))), .fz (iN x), .own (.lst ((GO E ps x).map iN)), .fz .non, .own (.lst [.non, .non]), .un, .un]) ?_ ⟨_, _, _, _, rfl⟩
      clear hgo e0 hmF ha hx
      generalize ((E.filter (agM ps)).map fun n => app n x).map iN = LL at *
      generalize (E.filter (agM ps)).map (evD b) = EE at *
      generalize ps.map tN = T at *
      generalize GO E ps x = GG at *
      have e0 := p_spots (b := b) (by omega)
      have hgl7 : GG.length ≤ 100000 := by omega
      generalize (List.range (2 ^ b)).map iN = RR at *
      generalize GG.map iN = G2 at *
      simp [x__law_sure_right_k52_3, e0, f1, f2, f3, f4, r2, hgl6, hgl7, hc])
  have hx0 : 0 < 2 ^ b := Nat.two_pow_pos b
  have g1 := can52 (x := 0) (g := 0) h1 hb hE hl hw hm ha hx0 hx0
  have g2 : ∀ s3 s4 s5 s6 : Sl, lcLoop (store 7) dYes x__law_sure_right_k52_4 [7] (fzs ((E.filter (agM ps)).map (evD b))) [.ln (iN b), .ln (.lst (ps.map tN)), .ln (.lst ((E.filter (agM ps)).map (evD b))), s3, s4, s5, s6, .un, .un] [] = some ([.ln (iN b), .ln (.lst (ps.map tN)), .ln (.lst ((E.filter (agM ps)).map (evD b))), s3, s4, s5, s6, .un, .un], ((E.filter (agM ps)).map fun n => app n 0).map iN) := fun s3 s4 s5 s6 => by
    have e := lc_map (g := store 7) (t := dYes) (f := x__law_sure_right_k52_4) (vs := [7]) (ρ := [.ln (iN b), .ln (.lst (ps.map tN)), .ln (.lst ((E.filter (agM ps)).map (evD b))), s3, s4, s5, s6, .un, .un]) (evD b) (fun n => iN (app n 0)) (xs := E.filter (agM ps)) (fun n hn => by
      have ei : gIx (evD b n) (iN 0) = _ := evD_ix hx0
      generalize evD b n = V at *
      generalize (E.filter (agM ps)).map (evD b) = EE at *
      generalize ps.map tN = T at *
      simp [x__law_sure_right_k52_4, ei]) (by omega)
    rw [List.map_map]
    exact e
  have g3 := gIn_Ns 0 ((E.filter (agM ps)).map fun n => app n 0)
  have g4 : decide (0 ∈ (E.filter (agM ps)).map fun n => app n 0) = decide (0 ∈ GO E ps 0) := decide_eq_decide.mpr (by unfold GO; rw [mem_ssetN])
  rw [g4] at g3
  generalize decide (0 ∈ GO E ps 0) = BB at *
  clear hgo hmF ha hw g4
  generalize ((E.filter (agM ps)).map fun n => app n 0).map iN = LL at *
  generalize (E.filter (agM ps)).map (evD b) = EE at *
  generalize ps.map tN = T at *
  generalize (List.range (2 ^ b)).map iN = RR at *
  simp [d__law_sure_right_k52, b__law_sure_right_k52, e0, e, g1, g2, g3]
end
end PG
namespace PG
open DN Gf
open L2 (Key)
open PySem (PyData Str)
section
variable {b : Nat} {ps : List (Nat × Nat)}
theorem p_need_agreeing_no (hb : b ≤ 60) (hl : ps.length ≤ 100) (h : Ways b ps) (hf : ¬ Fn (mkP b ps)) : d_need_agreeing [iN b, .lst (ps.map tN)] = .er [] ⟨"Impossible", []⟩ := by
  rcases p_clash_ofS hb hl h with ⟨f, e⟩ | ⟨_, ns, e, _⟩
  · exact absurd f hf
  · generalize ps.map tN = A at *
    generalize ns.map iN = W at *
    simp [d_need_agreeing, b_need_agreeing, e, isNon, dRaise]
theorem p_sure_no {x : Nat} (h1 : 1 ≤ b) (hb : b ≤ 60) (hl : ps.length ≤ 100) (hw : Ways b ps) (hf : ¬ Fn (mkP b ps)) (hx : x < 2 ^ b) : d_sure_end [iN b, .lst (ps.map tN), iN x] = .er [] ⟨"Impossible", []⟩ := by
  have e0 := p_need_both_k52 h1 hb hl hw
  have e1 := p_need_place (b := b) (m := x) (by omega) hx
  have e3 := p_need_agreeing_no hb hl hw hf
  generalize ps.map tN = A at *
  simp [d_sure_end, b_sure_end, e0, e1, e3]
theorem p_can_no {x y : Nat} (h1 : 1 ≤ b) (hb : b ≤ 60) (hl : ps.length ≤ 100) (hw : Ways b ps) (hf : ¬ Fn (mkP b ps)) (hx : x < 2 ^ b) (hy : y < 2 ^ b) : d_can_end [iN b, .lst (ps.map tN), iN x, iN y] = .er [] ⟨"Impossible", []⟩ := by
  have e0 := p_need_both_k52 h1 hb hl hw
  have e1 := p_need_place (b := b) (m := x) (by omega) hx
  have e2 := p_need_place (b := b) (m := y) (by omega) hy
  have e3 := p_need_agreeing_no hb hl hw hf
  generalize ps.map tN = A at *
  simp [d_can_end, b_can_end, e0, e1, e2, e3]
theorem none52_step {x : Nat} {fs : List D} {y3 : Sl} (h1 : 1 ≤ b) (hb : b ≤ 60) (hl : ps.length ≤ 100) (hw : Ways b ps) (hf : ¬ Fn (mkP b ps)) (hx : x < 2 ^ b) (hfl : fs.length ≤ 10) :
    x__law_none_right_k52_1 [.ln (iN b), .ln (.lst (ps.map tN)), .own (.lst fs), .fz (iN x)] = .ok [.ln (iN b), .ln (.lst (ps.map tN)), .own (.lst (fs ++ [.str "none", .str "none"])), .fz (iN x)] .nx := by
  have e1 := p_sure_no h1 hb hl hw hf hx
  have e2 := p_can_no h1 hb hl hw hf hx hx
  have g1 : gAppend (.lst fs) [.str "none"] = some (.lst (fs ++ [.str "none"]), .non) := gAppend_N (by omega)
  have g2 : gAppend (.lst (fs ++ [.str "none"])) [.str "none"] = some (.lst (fs ++ [.str "none", .str "none"]), .non) := by
    have := gAppend_N (xs := fs ++ [.str "none"]) (y := .str "none") (by rw [List.length_append, List.length_singleton]; omega)
    rw [this, List.append_assoc]; rfl
  generalize ps.map tN = A at *
  simp [x__law_none_right_k52_1, dTry, noEr, e1, e2, g1, g2, List.lookup]
theorem p_none52 (h1 : 1 ≤ b) (hb : b ≤ 60) (hl : ps.length ≤ 100) (hw : Ways b ps) (hf : ¬ Fn (mkP b ps)) : d__law_none_right_k52 [iN b, .lst (ps.map tN)] = .ok [] (.fz (.bl true)) := by
  have hp := Nat.two_pow_pos b
  have e1 := p_no_mapping h1 hb hl hw hf
  obtain ⟨ns, e2⟩ : ∃ ns : List Nat, d_clash [iN b, .lst (ps.map tN)] = .ok [] (.own (.lst (ns.map iN))) := by
    rcases p_clashS h1 hb hl hw with ⟨f, _⟩ | ⟨_, ns, e, _⟩
    · exact absurd f hf
    · exact ⟨ns, e⟩
  obtain ⟨ρ', e, y3, rfl⟩ := loop_l (g := store 3) (b := x__law_none_right_k52_1) iN (fun d ρ => ∃ y3, ρ = [.ln (iN b), .ln (.lst (ps.map tN)), .own (.lst (List.replicate (2 * d.length) (.str "none"))), y3]) (xs := [0, 2 ^ b - 1]) (ρ := [.ln (iN b), .ln (.lst (ps.map tN)), .own (.lst []), .un]) ⟨_, rfl⟩ (by
    rintro d x t ρ hx ⟨y3, rfl⟩
    have hxl : x < 2 ^ b := by
      have : x ∈ [0, 2 ^ b - 1] := by rw [hx]; simp
      rcases List.mem_cons.mp this with rfl | h
      · exact hp
      · rw [List.mem_singleton.mp h]; omega
    have hd := len_app hx
    have hd : d.length < 2 := hd
    have e := none52_step (x := x) (fs := List.replicate (2 * d.length) (.str "none")) (y3 := y3) h1 hb hl hw hf hxl (by rw [List.length_replicate]; omega)
    refine Goes.of (ρ := [.ln (iN b), .ln (.lst (ps.map tN)), .own (.lst (List.replicate (2 * (d ++ [x]).length) (.str "none"))), .fz (iN x)]) ?_ ⟨_, rfl⟩
    have e3 : List.replicate (2 * (d ++ [x]).length) (D.str "none") = List.replicate (2 * d.length) (.str "none") ++ [.str "none", .str "none"] := by
      rw [List.length_append, List.length_singleton, Nat.mul_add, Nat.mul_one, ← List.replicate_append_replicate]; rfl
    rw [e3]
    generalize List.replicate (2 * d.length) (D.str "none") = RR at *
    generalize ps.map tN = A at *
    simp [e])
  have g3 : gMul (.lst [.str "none"]) (iN 4) = some (.own (.lst [.str "none", .str "none", .str "none", .str "none"])) := by with_unfolding_all rfl
  have g4 : gEq2 (.lst [.str "none", .str "none", .str "none", .str "none"]) (.lst [.str "none", .str "none", .str "none", .str "none"]) = some (.fz (.bl true)) := by with_unfolding_all rfl
  have e3 : List.replicate (2 * [0, 2 ^ b - 1].length) (D.str "none") = [.str "none", .str "none", .str "none", .str "none"] := rfl
  rw [e3] at e
  have hb7 : 2 ^ b ≤ 2 ^ 60 := Nat.pow_le_pow_right (by decide) hb
  have hb8 : 1 ≤ 2 ^ b := hp
  simp only [List.map_cons, List.map_nil] at e
  generalize ps.map tN = A at *
  generalize ns.map iN = W at *
  have hb6 : b ≤ 100000 := by omega
  simp [d__law_none_right_k52, b__law_none_right_k52, hb6, hb8, e, e1, e2, g3, g4, isNon]
end
end PG
namespace PG
open DN Gf
open L2 (Key)
open PySem (PyData Str)
section
variable {b : Nat} {ps : List (Nat × Nat)} {m : Mp} {E : List Mp}
theorem ways_repr (hb : b ≤ 60) (hl : ps.length ≤ 100) (hw : Ways b ps) : gRepr [.lst (ps.map tN)] = some (.fz (.str (rT (.lst (ps.map tN))))) :=
  (Rk.lstM (n := 1) (k := 147) (m := 100) (f := tN) (fun q hq => .mono (.tup (n := 0) (k := 70) (m := 2) (fun d hd => by
    have h := hw q hq
    simp at hd
    rcases hd with rfl | rfl
    · exact .nat (two_lt h.1 hb)
    · exact .nat (two_lt h.2 hb)) (by simp)) (by decide) (by decide)) hl).repr
theorem nns_empty (Ls : List (List Nat)) : gEq2 (.lst (Ls.map nnD)) (.lst []) = some (.fz (.bl (decide (Ls = [])))) := gEq2_of (eqD_enc (α := List (List Nat)) (by decide) Ls []) (gEqS_lst _ _)
theorem nns_notIn (x : List Nat) (Ls : List (List Nat)) : gNotIn (.lst (x.map iN)) (.lst (Ls.map nnD)) = some (.fz (.bl (!decide (x ∈ Ls)))) := by
  unfold gNotIn
  rw [show inD (.lst (x.map iN)) (.lst (Ls.map nnD)) = some (decide (x ∈ Ls)) from (inD_enc (α := List Nat) (by decide) (by decide) x Ls).trans (congrArg some (decide_eq_decide.mpr Iff.rfl))]
  rfl
theorem evs (F : List Mp) : F.map (evD b) = (F.map (lnE b)).map nnD := by rw [List.map_map]; rfl
theorem goal52 {M : Mp} {x : Nat} (hb : b ≤ 60) (h : Map b M) : d__law_goal [mD M, iN x] = .ok [] (.fz (iN (app M x))) :=
  p_goal (rs := M.1) (o := M.2) (by rw [h.len]; omega) fun r hr => two_lt (h.row r hr) (by omega)
theorem agrees_no {M : Mp} (h1 : 1 ≤ b) (hb : b ≤ 60) (h : Map b M) (hl : ps.length ≤ 99) (hw : Ways b ps) : d_agrees [mD M, .lst ((ps ++ [(0, app M 1)]).map tN)] = .ok [] (.fz (.bl false)) := by
  have h0 : 0 < 2 ^ b := Nat.two_pow_pos b
  have h12 : 1 < 2 ^ b := Nat.one_lt_two_pow (by omega)
  have := p_agrees (ps := ps ++ [(0, app M 1)]) h1 hb h (by simp; omega) (ways_snoc52 hw h0 (app_lt h 1))
  have e : ((ps ++ [(0, app M 1)]).all fun q => app M q.1 == q.2) = false := by
    refine Bool.eq_false_iff.mpr fun q => ?_
    have k := agr_all.mp q (0, app M 1) (by simp)
    exact absurd (app_inj h h0 h12 k) (by decide)
  rw [e] at this
  exact this
theorem p_right52 (h1 : 1 ≤ b) (hb : b ≤ 5) (hE : AllM b E) (hEl : E.length ≤ 2000) (hl : ps.length ≤ 59) (hw : Ways b ps) : d__law_right_k52 [iN b, .lst (ps.map tN), .lst (E.map (evD b))] = .ok [] (.fz (.bl true)) := by
  have hb60 : b ≤ 60 := by omega
  have hl100 : ps.length ≤ 100 := by omega
  have hp2 : 2 ^ b ≤ 2 ^ 5 := Nat.pow_le_pow_right (by decide) hb
  have a1 := ways_repr hb60 hl100 hw
  obtain ⟨o, a2⟩ := p_agreeing52 (show b ≤ 5 by omega) hEl hl100 hw
  have a3 := p_agreeing_count h1 (show b ≤ 50 by omega) hl100 hw
  have c1 := list_agr h1 hb hE (show ps.length ≤ 60 by omega) hw
  rw [← c1] at a3
  have hF : (E.filter (agM ps)).length ≤ 2000 := Nat.le_trans (List.length_filter_le ..) hEl
  have a4 : gRepr [.lst [iN (E.filter (agM ps)).length, iN (E.filter (agM ps)).length]] = some (.fz (.str (rT (.lst [iN (E.filter (agM ps)).length, iN (E.filter (agM ps)).length])))) := (Rk.two (Rk.nat (k := 60) (Nat.lt_of_le_of_lt hF (by decide))) (Rk.nat (k := 60) (Nat.lt_of_le_of_lt hF (by decide)))).repr
  have a5 : gMul (.lst [iN (E.filter (agM ps)).length]) (iN 2) = some (.own (.lst [iN (E.filter (agM ps)).length, iN (E.filter (agM ps)).length])) := by with_unfolding_all rfl
  have a6 : gEq2 (.lst ((E.filter (agM ps)).map (evD b))) (.lst []) = some (.fz (.bl (decide ((E.filter (agM ps)).map (lnE b) = [])))) := by rw [evs]; exact nns_empty _
  have a7 : ((E.filter (agM ps)).map (evD b)).length = (E.filter (agM ps)).length := List.length_map ..
  have a8 : (E.filter (agM ps)).length ≤ 100000 := by omega
  by_cases hf : Fn (mkP b ps)
  · obtain ⟨M, r, s1, k1, k2, k3⟩ := p_some_mapping h1 hb60 hl100 hw hf
    have hME := hE.all M k1
    have hMF : M ∈ E.filter (agM ps) := List.mem_filter.mpr ⟨hME, agM_iff.mpr k2⟩
    have a9 : decide ((E.filter (agM ps)).map (lnE b) = []) = false := decide_eq_false fun q => by
      rw [List.map_eq_nil_iff] at q
      rw [q] at hMF
      cases hMF
    rw [a9] at a6
    have s2 : d_clash [iN b, .lst (ps.map tN)] = .ok [] (.fz .non) := by
      rcases p_clashS h1 hb60 hl100 hw with ⟨_, e⟩ | ⟨f, _⟩
      · exact e
      · exact absurd hf f
    have s3 := p_spots (b := b) (by omega)
    have s4 : ∀ s4 s5 : Sl, lcLoop (store 7) dYes x__law_right_k52_1 [7] (fzs ((List.range (2 ^ b)).map iN)) [.ln (iN b), .ln (.lst (ps.map tN)), .fz (.lst (E.map (evD b))), .fz (.str (rT (.lst (ps.map tN)))), s4, s5, .fz (mD M), .un] [] = some ([.ln (iN b), .ln (.lst (ps.map tN)), .fz (.lst (E.map (evD b))), .fz (.str (rT (.lst (ps.map tN)))), s4, s5, .fz (mD M), .un], (lnE b M).map iN) := fun s4 s5 => by
      have e := lc_map (g := store 7) (t := dYes) (f := x__law_right_k52_1) (vs := [7]) (ρ := [.ln (iN b), .ln (.lst (ps.map tN)), .fz (.lst (E.map (evD b))), .fz (.str (rT (.lst (ps.map tN)))), s4, s5, .fz (mD M), .un]) iN (fun x => iN (app M x)) (xs := List.range (2 ^ b)) (fun x hx => by
        have e := goal52 (x := x) hb60 k1
        generalize rT (.lst (ps.map tN)) = S at *
        generalize E.map (evD b) = EE at *
        generalize ps.map tN = T at *
        generalize mD M = MM at *
        simp [x__law_right_k52_1, e]) (by rw [List.length_range]; omega)
      unfold lnE
      rw [List.map_map]
      exact e
    have s5 : gNotIn (.lst ((lnE b M).map iN)) (.lst ((E.filter (agM ps)).map (evD b))) = some (.fz (.bl false)) := by
      rw [evs, nns_notIn, decide_eq_true (List.mem_map.mpr ⟨M, hMF, rfl⟩)]; rfl
    have s6 : d_agrees [mD M, .lst (ps.map tN)] = .ok [] (.fz (.bl true)) := by
      have := p_agrees h1 hb60 k1 hl100 hw
      rwa [agr_all.mpr k2] at this
    have s7 := agrees_no h1 hb60 k1 (show ps.length ≤ 99 by omega) hw
    have ha : (ps ++ [(0, app M 1)]).map tN = ps.map tN ++ [.tup [iN 0, iN (app M 1)]] := by rw [List.map_append]; rfl
    rw [ha] at s7
    have ga : gAdd (.lst (ps.map tN)) (.lst [.tup [iN 0, iN (app M 1)]]) = some (.own (.lst (ps.map tN ++ [.tup [iN 0, iN (app M 1)]]))) := gAdd_lst (by simp; omega)
    have s8 := goal52 (x := 1) hb60 k1
    have s9 : gRepr [mD M] = some (.fz (.str (rT (mD M)))) := (Rk.map hb60 k1).repr
    have s10 := p_sure52 h1 hb hE hEl hl hw hME k2
    have hml : (M.1.map iN).length = b := by rw [List.length_map]; exact k1.len
    have hb6 : b ≤ 100000 := by omega
    clear c1 hw hf k2 hMF a9 hE
    generalize rT (.lst (ps.map tN)) = S at *
    generalize ps.map tN ++ [.tup [iN 0, iN (app M 1)]] = T2 at *
    generalize (E.filter (agM ps)).map (evD b) = FF at *
    generalize (E.filter (agM ps)).length = FN at *
    generalize E.map (evD b) = EE at *
    generalize ps.map tN = T at *
    generalize app M 1 = z at *
    generalize (lnE b M).map iN = LM at *
    generalize (List.range (2 ^ b)).map iN = RR at *
    have hS9 := s9
    generalize rT (mD M) = SM at *
    unfold MpR at k3
    simp only [mD] at *
    generalize M.1.map iN = MR at *
    rcases k3 with rfl | rfl <;> cases o <;> simp only [Bool.false_eq_true, if_false, if_true] at a2 <;>
      simp [d__law_right_k52, b__law_right_k52, a1, a2, a3, a4, a5, a6, a7, a8, s1, s2, s3, s4, s5, s6, s7, s8, s9, s10, ga, hml, hb6, isNon]
  · have a9 : decide ((E.filter (agM ps)).map (lnE b) = []) = true := by
      have : (E.filter (agM ps)).length = 0 := by rw [c1, agrN_no hf]
      rw [List.length_eq_zero_iff] at this
      rw [this]; rfl
    rw [a9] at a6
    have s1 := p_none52 h1 hb60 hl100 hw hf
    clear c1 hw hf a9 hE
    generalize rT (.lst (ps.map tN)) = S at *
    generalize (E.filter (agM ps)).map (evD b) = FF at *
    generalize (E.filter (agM ps)).length = FN at *
    generalize E.map (evD b) = EE at *
    generalize ps.map tN = T at *
    cases o <;> simp only [Bool.false_eq_true, if_false, if_true] at a2 <;>
      simp [d__law_right_k52, b__law_right_k52, a1, a2, a3, a4, a5, a6, a7, a8, s1]
end
end PG
namespace PG
open DN Gf
open L2 (Key)
open PySem (PyData Str)
theorem list3 : ((stgN 3 3).flatMap fun l => (List.range 8).map fun o => l.map (· ^^^ o)) = (allE 3).map (lnE 3) := by decide +kernel
theorem every1 : d__law_every [iN 1] = .ok [] (.own (.lst ((allE 1).map (evD 1)))) := by kernel_rfl
theorem every2 : d__law_every [iN 2] = .ok [] (.own (.lst ((allE 2).map (evD 2)))) := by kernel_rfl
def offs (n : Nat) (l : List Nat) : List (List Nat) := (List.range n).map fun o => l.map (· ^^^ o)
theorem every_tail {b : Nat} {LS : List (List Nat)} {y2 y3 y4 y5 : Sl} (hb : b ≤ 8) (hL : LS.length ≤ 200) (hl : ∀ l ∈ LS, l.length ≤ 1000) :
    ∃ y7 : Sl, dLoop (store 7) x__law_every_9 (fzs (LS.map nnD)) [.ln (iN b), .ln (.lst (LS.map nnD)), y2, y3, y4, y5, .own (.lst []), .un, .un, .un, .un, .un] = .ok [.ln (iN b), .ln (.lst (LS.map nnD)), y2, y3, y4, y5, .own (.lst ((LS.flatMap (offs (2 ^ b))).map nnD)), y7, .un, .un, .un, .un] .nx := by
  have hp2 : 2 ^ b ≤ 2 ^ 8 := Nat.pow_le_pow_right (by decide) hb
  obtain ⟨ρ', e, y7, rfl⟩ := loop_l (g := store 7) (b := x__law_every_9) nnD (fun d ρ => ∃ y7, ρ = [.ln (iN b), .ln (.lst (LS.map nnD)), y2, y3, y4, y5, .own (.lst ((d.flatMap (offs (2 ^ b))).map nnD)), y7, .un, .un, .un, .un]) (xs := LS) (ρ := [.ln (iN b), .ln (.lst (LS.map nnD)), y2, y3, y4, y5, .own (.lst []), .un, .un, .un, .un, .un]) ⟨_, rfl⟩ (by
    rintro d l t ρ hx ⟨y7, rfl⟩
    have hd := len_app hx
    have hll := hl l (by rw [hx]; simp)
    have e1 : ∀ (o : Nat) (s6 : Sl), lcLoop (store 9) dYes x__law_every_7 [9] (fzs (l.map iN)) [.ln (iN b), .ln (.lst (LS.map nnD)), y2, y3, y4, y5, s6, .fz (.lst (l.map iN)), .un, .un, .un, .fz (iN o)] [] = some ([.ln (iN b), .ln (.lst (LS.map nnD)), y2, y3, y4, y5, s6, .fz (.lst (l.map iN)), .un, .un, .un, .fz (iN o)], (l.map (· ^^^ o)).map iN) := fun o s6 => by
      have e := lc_map (g := store 9) (t := dYes) (f := x__law_every_7) (vs := [9]) (ρ := [.ln (iN b), .ln (.lst (LS.map nnD)), y2, y3, y4, y5, s6, .fz (.lst (l.map iN)), .un, .un, .un, .fz (iN o)]) iN (fun x => iN (x ^^^ o)) (xs := l) (fun x hx => by
        generalize LS.map nnD = T at *
        generalize l.map iN = V at *
        simp [x__law_every_7]) (by omega)
      rw [List.map_map]
      exact e
    have e2 := lc_map (g := store 11) (t := dYes) (f := x__law_every_8) (vs := [11]) (ρ := [.ln (iN b), .ln (.lst (LS.map nnD)), y2, y3, y4, y5, .own (.lst ((d.flatMap (offs (2 ^ b))).map nnD)), .fz (.lst (l.map iN)), .un, .un, .un, .un]) iN (fun o => nnD (l.map (· ^^^ o))) (xs := List.range (2 ^ b)) (fun o ho => by
      have e := e1 o (.own (.lst ((d.flatMap (offs (2 ^ b))).map nnD)))
      unfold nnD at *
      generalize (l.map (· ^^^ o)).map iN = W at *
      generalize l.map iN = V at *
      simp [x__law_every_8, e]) (by rw [List.length_range]; omega)
    have e3 : (List.range (2 ^ b)).map (fun o => nnD (l.map (· ^^^ o))) = (offs (2 ^ b) l).map nnD := by unfold offs; rw [List.map_map]; rfl
    rw [e3] at e2
    have hfl : ∀ d : List (List Nat), (d.flatMap (offs (2 ^ b))).length = d.length * 2 ^ b := fun d => by
      rw [List.length_flatMap]
      have : (d.map fun a => (offs (2 ^ b) a).length) = List.replicate d.length (2 ^ b) := List.eq_replicate_iff.mpr ⟨List.length_map .., fun x hx => by
        obtain ⟨a, _, rfl⟩ := List.mem_map.mp hx
        unfold offs; simp⟩
      rw [this, List.sum_replicate_nat]
    have hg : gAdd (.lst ((d.flatMap (offs (2 ^ b))).map nnD)) (.lst ((offs (2 ^ b) l).map nnD)) = some (.own (.lst (((d ++ [l]).flatMap (offs (2 ^ b))).map nnD))) := by
      have := gAdd_lst (xs := (d.flatMap (offs (2 ^ b))).map nnD) (ys := (offs (2 ^ b) l).map nnD) (by
        rw [List.length_map, List.length_map, hfl]
        have : (offs (2 ^ b) l).length = 2 ^ b := by unfold offs; simp
        rw [this]
        have : d.length * 2 ^ b ≤ 200 * 2 ^ 8 := Nat.mul_le_mul (by omega) hp2
        omega)
      rw [this, List.flatMap_append, List.flatMap_singleton, List.map_append]
    refine Goes.of (ρ := [.ln (iN b), .ln (.lst (LS.map nnD)), y2, y3, y4, y5, .own (.lst (((d ++ [l]).flatMap (offs (2 ^ b))).map nnD)), .fz (.lst (l.map iN)), .un, .un, .un, .un]) ?_ ⟨_, rfl⟩
    have hb6 : b ≤ 100000 := by omega
    have hb7 : 2 ^ b ≤ 1000000 := by omega
    unfold nnD at *
    generalize ((d ++ [l]).flatMap (offs (2 ^ b))).map (fun l => D.lst (l.map iN)) = W2 at *
    generalize (d.flatMap (offs (2 ^ b))).map (fun l => D.lst (l.map iN)) = W1 at *
    generalize (offs (2 ^ b) l).map (fun l => D.lst (l.map iN)) = W3 at *
    generalize LS.map (fun l => D.lst (l.map iN)) = T at *
    generalize l.map iN = V at *
    simp [x__law_every_9, hb6, hb7, e2, hg])
  exact ⟨y7, e⟩
theorem len33 : (stgN 3 3).length = 168 ∧ ∀ l ∈ stgN 3 3, l.length ≤ 1000 := by decide +kernel
theorem every3 : d__law_every [iN 3] = .ok [] (.own (.lst ((allE 3).map (evD 3)))) := by
  obtain ⟨y7, e⟩ := every_tail (b := 3) (LS := stgN 3 3) (y2 := .fz (iN 2)) (y3 := .own (.lst ((lgN 3 2 (stgN 3 2)).map nnD))) (y4 := .fz (iN 7)) (y5 := .fz (nnD (bhN 3 2 7))) (by decide) (by rw [len33.1]; decide) len33.2
  have e2 : ((stgN 3 3).flatMap (offs (2 ^ 3))).map nnD = (allE 3).map (evD 3) := by
    have : (stgN 3 3).flatMap (offs (2 ^ 3)) = (allE 3).map (lnE 3) := list3
    rw [this, List.map_map]
    rfl
  rw [e2] at e
  have h0 : gMul (.lst [iN 0]) (iN 8) = some (.own (.lst ((stgN 3 0).head!.map iN))) := by with_unfolding_all rfl
  have h1 : (stgN 3 0).map nnD = [.lst ((stgN 3 0).head!.map iN)] := rfl
  have f0 := stage30 (s3 := .un) (s4 := .un) (s5 := .un)
  have f1 := stage31 (s3 := .own (.lst ((lgN 3 0 (stgN 3 0)).map nnD))) (s4 := .fz (iN 7)) (s5 := .fz (nnD (bhN 3 0 7)))
  have f2 := stage32 (s3 := .own (.lst ((lgN 3 1 (stgN 3 1)).map nnD))) (s4 := .fz (iN 7)) (s5 := .fz (nnD (bhN 3 1 7)))
  rw [h1] at f0
  generalize (stgN 3 0).head!.map iN = L0 at *
  generalize (stgN 3 1).map nnD = L1 at *
  generalize (stgN 3 2).map nnD = L2 at *
  generalize (stgN 3 3).map nnD = L3 at *
  generalize (lgN 3 0 (stgN 3 0)).map nnD = G0 at *
  generalize (lgN 3 1 (stgN 3 1)).map nnD = G1 at *
  generalize (lgN 3 2 (stgN 3 2)).map nnD = G2 at *
  generalize nnD (bhN 3 0 7) = B0 at *
  generalize nnD (bhN 3 1 7) = B1 at *
  generalize nnD (bhN 3 2 7) = B2 at *
  generalize (allE 3).map (evD 3) = EE at *
  have g8 : gShl (iN 1) (iN 3) = some (.fz (iN 8)) := by with_unfolding_all rfl
  have gr : dRng rng1 (dCons (dVar 0) dNil) [.ln (iN 3), .own (.lst [.lst L0]), .un, .un, .un, .un, .un, .un, .un, .un, .un, .un] = .ok [.ln (iN 3), .own (.lst [.lst L0]), .un, .un, .un, .un, .un, .un, .un, .un, .un, .un] [.fz (iN 0), .fz (iN 1), .fz (iN 2)] := by with_unfolding_all rfl
  have gl : dFor (dRng rng1 (dCons (dVar 0) dNil)) (store 2) x__law_every_6 [.ln (iN 3), .own (.lst [.lst L0]), .un, .un, .un, .un, .un, .un, .un, .un, .un, .un] = .ok [.ln (iN 3), .own (.lst L3), .fz (iN 2), .own (.lst G2), .fz (iN 7), .fz B2, .un, .un, .un, .un, .un, .un] .nx := by
    unfold dFor
    rw [gr]
    simp [dLoop, f0, f1, f2]
  simp [d__law_every, b__law_every, g8, h0, gl, e]
theorem p_every {b : Nat} (h1 : 1 ≤ b) (hb : b ≤ 3) : d__law_every [iN b] = .ok [] (.own (.lst ((allE b).map (evD b)))) := by
  obtain rfl | rfl | rfl : b = 1 ∨ b = 2 ∨ b = 3 := by omega
  · exact every1
  · exact every2
  · exact every3
end PG
namespace PG
open DN Gf
open L2 (Key)
open PySem (PyData Str)
section
variable {b : Nat} {ps : List (Nat × Nat)} {m : Mp} {E : List Mp}
theorem p_pairs52 {u n : Nat} {s : D} (h1 : 1 ≤ b) (hb : b ≤ 3) (hE : ∀ m ∈ E, Map b m) (hE0 : E ≠ []) (hEl : E.length ≤ 2000) (hn : n ≤ 50) (hs : Src u s) (hu : u < 10 ^ 8) :
    ∃ (s' : D) (ps : List (Nat × Nat)), d__law_pairs_k52 [s, iN b, iN n, .lst (E.map (evD b))] = .ok [s'] (.own (.lst (ps.map tN))) ∧ Src (u + 1 + 3 * n) s' ∧ ps.length = n ∧ Ways b ps := by
  have hp2 : 2 ^ b ≤ 2 ^ 3 := Nat.pow_le_pow_right (by decide) hb
  have hpos := List.length_pos_iff.mpr hE0
  obtain ⟨s1, r, e1, q1, l1⟩ := p_draw' hs (by omega) hpos (by omega)
  have hr : (E.map (evD b))[r]? = some (evD b E[r]) := by simp [l1]
  have hM := hE _ (List.getElem_mem l1)
  have hlen : (E.map (evD b)).length = E.length := List.length_map ..
  obtain ⟨ρ', e, s', ps, y6, y7, y8, rfl, q, hl, hw⟩ := loop_l (g := store 6) (b := x__law_pairs_k52_1) iN (fun d ρ => ∃ (s' : D) (ps : List (Nat × Nat)) (y6 y7 y8 : Sl), ρ = [.own s', .ln (iN b), .ln (iN n), .ln (.lst (E.map (evD b))), .fz (evD b E[r]), .own (.lst (ps.map tN)), y6, y7, y8] ∧ Src (u + 1 + 3 * d.length) s' ∧ ps.length = d.length ∧ Ways b ps) (xs := List.range n) (ρ := [.own s1, .ln (iN b), .ln (iN n), .ln (.lst (E.map (evD b))), .fz (evD b E[r]), .own (.lst []), .un, .un, .un]) ⟨s1, [], _, _, _, rfl, q1, rfl, fun q hq => nomatch hq⟩ (by
    rintro d t t' ρ hx ⟨s', ps, y6, y7, y8, rfl, q, hl, hw⟩
    have hd := len_app hx
    rw [List.length_range] at hd
    obtain ⟨s2, x, f1, q2, hx2⟩ := p_drawB (b := b) q (by omega) (by omega)
    obtain ⟨s3, w, f2, q3, hw3⟩ := p_draw' q2 (by omega) (show 0 < 8 by decide) (by decide)
    obtain ⟨s4, y, f3, q4, hy4⟩ := p_drawB (b := b) q3 (by omega) (by omega)
    have ei : gIx (evD b E[r]) (iN x) = _ := evD_ix hx2
    have hb6 : b ≤ 100000 := by omega
    by_cases c : 0 < w
    · refine Goes.of (ρ := [.own s3, .ln (iN b), .ln (iN n), .ln (.lst (E.map (evD b))), .fz (evD b E[r]), .own (.lst ((ps ++ [(x, app E[r] x)]).map tN)), .fz (iN t), .fz (iN x), .fz (iN (app E[r] x))]) ?_ ⟨s3, _, _, _, _, rfl, ?_, ?_, ways_snoc52 hw hx2 (app_lt hM x)⟩
      · have ga : gAppend (.lst (ps.map tN)) [.tup [iN x, iN (app E[r] x)]] = some (.lst ((ps ++ [(x, app E[r] x)]).map tN), .non) := by
          have := gAppend_N (xs := ps.map tN) (y := .tup [iN x, iN (app E[r] x)]) (by rw [List.length_map]; omega)
          rw [this, List.map_append]; rfl
        generalize (ps ++ [(x, app E[r] x)]).map tN = T2 at *
        generalize ps.map tN = T at *
        generalize app E[r] x = z at *
        generalize evD b E[r] = V at *
        generalize E.map (evD b) = EE at *
        simp [x__law_pairs_k52_1, hb6, f1, f2, c, ei, ga]
      · rw [List.length_append, List.length_singleton]; exact q3.mono (by omega)
      · rw [List.length_append, List.length_append, hl]; rfl
    · refine Goes.of (ρ := [.own s4, .ln (iN b), .ln (iN n), .ln (.lst (E.map (evD b))), .fz (evD b E[r]), .own (.lst ((ps ++ [(x, y)]).map tN)), .fz (iN t), .fz (iN x), .fz (iN y)]) ?_ ⟨s4, _, _, _, _, rfl, ?_, ?_, ways_snoc52 hw hx2 hy4⟩
      · have ga : gAppend (.lst (ps.map tN)) [.tup [iN x, iN y]] = some (.lst ((ps ++ [(x, y)]).map tN), .non) := by
          have := gAppend_N (xs := ps.map tN) (y := .tup [iN x, iN y]) (by rw [List.length_map]; omega)
          rw [this, List.map_append]; rfl
        generalize (ps ++ [(x, y)]).map tN = T2 at *
        generalize ps.map tN = T at *
        generalize evD b E[r] = V at *
        generalize E.map (evD b) = EE at *
        simp [x__law_pairs_k52_1, hb6, f1, f2, f3, c, ei, ga]
      · rw [List.length_append, List.length_singleton]; exact q4.mono (by omega)
      · rw [List.length_append, List.length_append, hl]; rfl)
  rw [List.length_range] at q hl
  refine ⟨s', ps, ?_, q, hl, hw⟩
  have hn6 : n ≤ 1000000 := by omega
  have hl6 : E.length ≤ 100000 := by omega
  clear hw
  generalize ps.map tN = T at *
  generalize evD b E[r] = V at *
  generalize E.map (evD b) = EE at *
  simp [d__law_pairs_k52, b__law_pairs_k52, hlen, hl6, hn6, e1, hr, e]
end
theorem lens : (allE 1).length = 2 ∧ (allE 2).length = 24 ∧ (allE 3).length = 1344 := by decide +kernel
theorem allE_len {b : Nat} (h1 : 1 ≤ b) (hb : b ≤ 3) : (allE b).length ≤ 1344 ∧ allE b ≠ [] := by
  have h := lens
  obtain rfl | rfl | rfl : b = 1 ∨ b = 2 ∨ b = 3 := by omega
  · exact ⟨by omega, fun e => by rw [e] at h; simp at h⟩
  · exact ⟨by omega, fun e => by rw [e] at h; simp at h⟩
  · exact ⟨by omega, fun e => by rw [e] at h; simp at h⟩
def lsD (b : Nat) : D := .lst ((allE b).map (evD b))
def knownD (ns : List Int) : List D := if ns = [] then [lsD 1, lsD 2] else [lsD 1, lsD 2, lsD 3]
theorem k52_size {k b u : Nat} {ns : List Int} {s s5 : D} {y7 x3 : Sl} (h1 : 1 ≤ b) (hb : b ≤ 3) (hk : (knownD ns)[b - 1]? = some (lsD b)) (hs : Src u s) (hu : u < 10 ^ 7) :
    ∃ s', x_law_k52_2 [.fz (.lst (ns.map D.int)), .own (.lst (knownD ns)), .fz (iN k), x3, .own s, .ln s5, .fz (iN b), y7] = .ok [.fz (.lst (ns.map D.int)), .own (.lst (knownD ns)), .fz (iN k), x3, .own s', .ln s5, .fz (iN b), .fz (lsD b)] .nx ∧ Src (u + 20) s' := by
  obtain ⟨hl, hne⟩ := allE_len h1 hb
  have hE := allE_all h1 hb
  obtain ⟨s1, r, e1, q1, l1⟩ := p_draw' hs (by omega) (show 0 < 6 by decide) (by decide)
  obtain ⟨s2, ps, e2, q2, hpl, hw⟩ := p_pairs52 (n := r) h1 hb hE.map hne (by omega) (by omega) q1 (by omega)
  have e3 := p_right52 h1 (show b ≤ 5 by omega) hE (by omega) (show ps.length ≤ 59 by omega) hw
  refine ⟨s2, ?_, q2.mono (by omega)⟩
  clear hw hE
  unfold lsD at *
  generalize ps.map tN = T at *
  generalize D.lst ((allE b).map (evD b)) = LL at *
  generalize knownD ns = KK at *
  have hb1 : 1 ≤ b := h1
  simp [x_law_k52_2, hb1, hk, e1, e2, e3]
theorem k52_1 {k : Nat} {c : Int} {ns : List Int} {x4 x5 x6 x7 : Sl} (hk : k ≤ 100) (h7 : isOwn x7 = false) : ∃ y4 y5 y6 y7, isOwn y7 = false ∧ x_law_k52_3 [.fz (.lst (ns.map D.int)), .own (.lst (knownD ns)), .fz (iN k), .fz (.int c), x4, x5, x6, x7] = .ok [.fz (.lst (ns.map D.int)), .own (.lst (knownD ns)), .fz (iN k), .fz (.int c), y4, y5, y6, y7] .nx := by
  obtain ⟨s, e, q⟩ := source_ok c (k := k) (by omega)
  obtain ⟨sz, hsz, hss⟩ : ∃ sz : List Nat, (∀ x ∈ sz, 1 ≤ x ∧ x ≤ 3 ∧ (knownD ns)[x - 1]? = some (lsD x)) ∧ sz.length ≤ 4 ∧ sz = if k = 0 ∧ ns ≠ [] then [1, 2, 2, 3] else [1, 2, 2] := by
    by_cases c1 : ns = []
    · refine ⟨[1, 2, 2], fun x hx => ?_, by decide, by rw [if_neg (fun q => q.2 c1)]⟩
      simp at hx
      unfold knownD
      rw [if_pos c1]
      rcases hx with rfl | rfl <;> exact ⟨by decide, by decide, rfl⟩
    · by_cases c2 : k = 0
      · refine ⟨[1, 2, 2, 3], fun x hx => ?_, by decide, by rw [if_pos ⟨c2, c1⟩]⟩
        simp at hx
        unfold knownD
        rw [if_neg c1]
        rcases hx with rfl | rfl | rfl <;> exact ⟨by decide, by decide, rfl⟩
      · refine ⟨[1, 2, 2], fun x hx => ?_, by decide, by rw [if_neg (fun q => c2 q.1)]⟩
        simp at hx
        unfold knownD
        rw [if_neg c1]
        rcases hx with rfl | rfl <;> exact ⟨by decide, by decide, rfl⟩
  obtain ⟨ρ', e2, s', y6, y7, rfl, _, hy7⟩ := loop_l (g := store 6) (b := x_law_k52_2) iN (fun d ρ => ∃ (s' : D) (y6 y7 : Sl), ρ = [.fz (.lst (ns.map D.int)), .own (.lst (knownD ns)), .fz (iN k), .fz (.int c), .own s', .ln (.lst (sz.map iN)), y6, y7] ∧ Src (20 * d.length) s' ∧ isOwn y7 = false) (xs := sz) (ρ := [.fz (.lst (ns.map D.int)), .own (.lst (knownD ns)), .fz (iN k), .fz (.int c), .own s, .ln (.lst (sz.map iN)), x6, x7]) ⟨s, _, _, rfl, q, h7⟩ (by
    rintro d x t ρ hx ⟨s', y6, y7, rfl, q, _⟩
    have hd := len_app hx
    obtain ⟨h1, h2, h3⟩ := hsz x (by rw [hx]; simp)
    obtain ⟨s2, f, q2⟩ := k52_size (k := k) (s5 := .lst (sz.map iN)) (y7 := y7) (x3 := .fz (.int c)) h1 h2 h3 q (by omega)
    refine Goes.of (ρ := [.fz (.lst (ns.map D.int)), .own (.lst (knownD ns)), .fz (iN k), .fz (.int c), .own s2, .ln (.lst (sz.map iN)), .fz (iN x), .fz (lsD x)]) ?_ ⟨s2, _, _, rfl, by rw [List.length_append, List.length_singleton]; exact q2.mono (by omega), rfl⟩
    generalize sz.map iN = Z at *
    generalize knownD ns = KK at *
    generalize lsD x = LX at *
    simp [f])
  refine ⟨.own s', .own (.lst (sz.map iN)), y6, y7, hy7, ?_⟩
  have hk0 : gMul (.lst [iN 3]) (iN 0) = some (.own (.lst [])) := by with_unfolding_all rfl
  have hk1 : gMul (.lst [iN 3]) (iN 1) = some (.own (.lst [iN 3])) := by with_unfolding_all rfl
  have ha0 : gAdd (.lst [iN 1, iN 2, iN 2]) (.lst []) = some (.own (.lst [iN 1, iN 2, iN 2])) := by with_unfolding_all rfl
  have ha1 : gAdd (.lst [iN 1, iN 2, iN 2]) (.lst [iN 3]) = some (.own (.lst [iN 1, iN 2, iN 2, iN 3])) := by with_unfolding_all rfl
  obtain ⟨_, hss⟩ := hss
  clear hsz q
  generalize knownD ns = KK at *
  by_cases c1 : ns = []
  · rw [if_neg (fun q => q.2 c1)] at hss
    subst hss c1
    simp only [List.map_nil, List.map_cons] at *
    by_cases c2 : k = 0
    · subst c2
      simp [x_law_k52_3, e, e2, hk0, ha0]
    · simp [x_law_k52_3, c2, e, e2, hk0, ha0]
  · by_cases c2 : k = 0
    · rw [if_pos ⟨c2, c1⟩] at hss
      subst hss c2
      simp only [List.map_nil, List.map_cons] at *
      simp [x_law_k52_3, c1, e, e2, hk1, ha1]
    · rw [if_neg (fun q => c2 q.1)] at hss
      subst hss
      simp only [List.map_nil, List.map_cons] at *
      simp [x_law_k52_3, c2, e, e2, hk0, ha0]
theorem k52_q2 : gEq2 (.lst [iN 2, iN 24]) (.lst [iN 2, iN 24]) = some (.fz (.bl true)) := by
  have := gEq2_Ns [2, 24] [2, 24]
  simpa using this
theorem k52_q3 : gEq2 (.lst [iN 2, iN 24, iN 1344]) (.lst [iN 2, iN 24, iN 1344]) = some (.fz (.bl true)) := by
  have := gEq2_Ns [2, 24, 1344] [2, 24, 1344]
  simpa using this
theorem k52_end {ns : List Int} {E1 E2 E3 : List D} {x2 x3 x4 x5 x6 x7 : Sl} (hn : ns.length ≤ 63) (h7 : isOwn x7 = false)
    (k1 : d__law_every [iN 1] = .ok [] (.own (.lst E1))) (k2 : d__law_every [iN 2] = .ok [] (.own (.lst E2))) (k3 : d__law_every [iN 3] = .ok [] (.own (.lst E3)))
    (l1 : E1.length = 2) (l2 : E2.length = 24) (l3 : E3.length = 1344)
    (e' : dLoop (storeN [2, 3]) x_law_k52_3 (enumItems ((ns.map D.int ++ [iN 0]).take (max 1 (min ns.length 6)))) [.fz (.lst (ns.map D.int)), .own (.lst (if ns = [] then [.lst E1, .lst E2] else [.lst E1, .lst E2, .lst E3])), .un, .un, .un, .un, .un, .un] = .ok [.fz (.lst (ns.map D.int)), .own (.lst (if ns = [] then [.lst E1, .lst E2] else [.lst E1, .lst E2, .lst E3])), x2, x3, x4, x5, x6, x7] .nx) :
    d_law_k52 [.lst (ns.map D.int)] = .ok [] (.fz (.bl true)) := by
  have hl8 : ns.length + 1 ≤ 100000 := by omega
  have q2 := k52_q2
  have q3 := k52_q3
  by_cases c1 : ns = []
  · subst c1
    rw [if_pos rfl] at e'
    have lc1 : lcLoop (store 6) dYes x_law_k52_1 [6] (fzs [iN 1, iN 2]) [.fz (.lst []), .un, .un, .un, .un, .un, .un, .un] [] = some ([.fz (.lst []), .un, .un, .un, .un, .un, .un, .un], [.lst E1, .lst E2]) := lc_map (g := store 6) (t := dYes) (f := x_law_k52_1) (vs := [6]) iN (fun n => if n = 1 then .lst E1 else .lst E2) (xs := [1, 2]) (fun x hx => by
      simp only [List.mem_cons, List.not_mem_nil, or_false] at hx
      rcases hx with rfl | rfl
      · simp [x_law_k52_1, k1]
      · simp [x_law_k52_1, k2]) (by decide)
    have lc2 : lcLoop (store 7) dYes x_law_k52_4 [7] (fzs [.lst E1, .lst E2]) [.fz (.lst []), .ln (.lst [.lst E1, .lst E2]), x2, x3, x4, x5, x6, .un] [] = some ([.fz (.lst []), .ln (.lst [.lst E1, .lst E2]), x2, x3, x4, x5, x6, .un], [iN 2, iN 24]) := by
      have e := lc_map (g := store 7) (t := dYes) (f := x_law_k52_4) (vs := [7]) (ρ := [.fz (.lst []), .ln (.lst ([E1, E2].map D.lst)), x2, x3, x4, x5, x6, .un]) D.lst (fun E => iN E.length) (xs := [E1, E2]) (fun x hx => by
        have hx5 : x.length ≤ 100000 := by
          simp only [List.mem_cons, List.not_mem_nil, or_false] at hx
          rcases hx with rfl | rfl <;> omega
        simp [x_law_k52_4, hx5]) (by simp)
      simp only [List.map_cons, List.map_nil, l1, l2] at e
      exact e
    clear l1 l2 l3 k1 k2 k3
    simp only [List.map_nil, List.nil_append, List.length_nil, Nat.min_def, Nat.max_def] at e'
    simp at e'
    simp [d_law_k52, b_law_k52, lc1, e', lc2, q2, h7]
  · rw [if_neg c1] at e'
    have lc1 : lcLoop (store 6) dYes x_law_k52_1 [6] (fzs [iN 1, iN 2, iN 3]) [.fz (.lst (ns.map D.int)), .un, .un, .un, .un, .un, .un, .un] [] = some ([.fz (.lst (ns.map D.int)), .un, .un, .un, .un, .un, .un, .un], [.lst E1, .lst E2, .lst E3]) := lc_map (g := store 6) (t := dYes) (f := x_law_k52_1) (vs := [6]) iN (fun n => if n = 1 then .lst E1 else if n = 2 then .lst E2 else .lst E3) (xs := [1, 2, 3]) (fun x hx => by
      simp only [List.mem_cons, List.not_mem_nil, or_false] at hx
      rcases hx with rfl | rfl | rfl
      · simp [x_law_k52_1, k1]
      · simp [x_law_k52_1, k2]
      · simp [x_law_k52_1, k3]) (by decide)
    have lc2 : lcLoop (store 7) dYes x_law_k52_4 [7] (fzs [.lst E1, .lst E2, .lst E3]) [.fz (.lst (ns.map D.int)), .ln (.lst [.lst E1, .lst E2, .lst E3]), x2, x3, x4, x5, x6, .un] [] = some ([.fz (.lst (ns.map D.int)), .ln (.lst [.lst E1, .lst E2, .lst E3]), x2, x3, x4, x5, x6, .un], [iN 2, iN 24, iN 1344]) := by
      have e := lc_map (g := store 7) (t := dYes) (f := x_law_k52_4) (vs := [7]) (ρ := [.fz (.lst (ns.map D.int)), .ln (.lst ([E1, E2, E3].map D.lst)), x2, x3, x4, x5, x6, .un]) D.lst (fun E => iN E.length) (xs := [E1, E2, E3]) (fun x hx => by
        have hx5 : x.length ≤ 100000 := by
          simp only [List.mem_cons, List.not_mem_nil, or_false] at hx
          rcases hx with rfl | rfl | rfl <;> omega
        simp [x_law_k52_4, hx5]) (by simp)
      simp only [List.map_cons, List.map_nil, l1, l2, l3] at e
      exact e
    clear l1 l2 l3 k1 k2 k3
    simp [d_law_k52, b_law_k52, c1, hl8, lc1, e', lc2, q3, h7]
theorem knownD_if (ns : List Int) : knownD ns = if ns = [] then [D.lst ((allE 1).map (evD 1)), .lst ((allE 2).map (evD 2))] else [.lst ((allE 1).map (evD 1)), .lst ((allE 2).map (evD 2)), .lst ((allE 3).map (evD 3))] := rfl
theorem p_law_k52 (ns : List Int) (hn : ns.length ≤ 63) : d_law_k52 [.lst (ns.map D.int)] = .ok [] (.fz (.bl true)) := by
  obtain ⟨ρ', e, x2, x3, x4, x5, x6, x7, rfl, h7⟩ := loop_e (g := storeN [2, 3]) (b := x_law_k52_3) D.int (fun d ρ => ∃ x2 x3 x4 x5 x6 x7, ρ = [.fz (.lst (ns.map D.int)), .own (.lst (knownD ns)), x2, x3, x4, x5, x6, x7] ∧ isOwn x7 = false) (xs := (ns ++ [0]).take (max 1 (min ns.length 6))) (ρ := [.fz (.lst (ns.map D.int)), .own (.lst (knownD ns)), .un, .un, .un, .un, .un, .un]) ⟨_, _, _, _, _, _, rfl, rfl⟩ (by
    rintro d c t ρ hx ⟨x2, x3, x4, x5, x6, x7, rfl, h7⟩
    have hd := len_app hx
    rw [List.length_take] at hd
    obtain ⟨y4, y5, y6, y7, hy7, e⟩ := k52_1 (c := c) (k := d.length) (ns := ns) (x4 := x4) (x5 := x5) (x6 := x6) (x7 := x7) (by omega) h7
    refine Goes.of (ρ := [.fz (.lst (ns.map D.int)), .own (.lst (knownD ns)), .fz (iN d.length), .fz (.int c), y4, y5, y6, y7]) ?_ ⟨_, _, _, _, _, _, rfl, hy7⟩
    generalize knownD ns = KK at *
    simp [e])
  have e' : dLoop (storeN [2, 3]) x_law_k52_3 (enumItems ((ns.map D.int ++ [iN 0]).take (max 1 (min ns.length 6)))) [.fz (.lst (ns.map D.int)), .own (.lst (knownD ns)), .un, .un, .un, .un, .un, .un] = .ok [.fz (.lst (ns.map D.int)), .own (.lst (knownD ns)), x2, x3, x4, x5, x6, x7] .nx := by
    rw [← e, List.map_take, List.map_append]
    generalize knownD ns = KK
    rfl
  rw [knownD_if] at e'
  exact k52_end hn h7 (p_every (by decide) (by decide)) (p_every (by decide) (by decide)) (p_every (by decide) (by decide)) (by rw [List.length_map]; exact lens.1) (by rw [List.length_map]; exact lens.2.1) (by rw [List.length_map]; exact lens.2.2) e'
end PG
theorem PySem.Challenge.cw_bitstages_k52_seen_ways_by_listing_holds : PySem.Challenge.rw_bitstages_k52_seen_ways_by_listing.Holds := by
  exact K52.holds_of PG.p_law_k52
