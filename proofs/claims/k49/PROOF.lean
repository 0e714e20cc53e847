import PyProof.Rows.All
import Wide.All
import OpenK.AllK
import Wide.FinOn
import HandS.HeadHook3
import HandS.HeadHook4
import KE.KStateDown
import Lean
import HandS.Base
import HandS.Call
import HandS.Ends
import HandS.More
import HandS.Words
import HandS.WordsExc
import HandS.Defaults
import HandS.Head0
import HandS.Head1
import HandS.Head2
import HandS.HeadEnd
import HandS.HeadHook1
import HandS.HeadHook2
import HandS.List
import HandS.Comp
import HandS.Text
import HandS.Exc
import HandS.ExcOwn
import HandS.TupAny
import HandS.Style
import HandS.IsInst
import HandS.Dict
import HandS.Iter
import HandS.Zip
import HandS.Lambda
import KE.KRevSl
import HandS.SortOrd
import HandS.SortRule
import HandS.SortKw
import KE.KSortKey
import KE.KSortTup
import KE.KSortAsk
import HandS.Zip0
import HandS.ExcIs
import HandS.SetFor
import HandS.EndTab
import PySem.Challenge.RW_whytongue_k49_whole_states_and_edits
set_option Elab.async false
set_option linter.all false
set_option maxRecDepth 100000
section
set_option maxRecDepth 100000
set_option maxHeartbeats 4000000
namespace Wy
open PySem PySem.Spec PyProof.Rows L2
def wNm : Nat → Str
  | 0 => "NoEdit" | 1 => "NoPath" | 2 => "NoState" | _ => "NoValue"
def excCB (K : PySem.W.Frag) (D : Addr) : Bool :=
  decide (PySem.W.findIn K (.ref D) "__getattribute__" = some (some (.builtin "BaseException.__getattribute__"))) &&
  (decide (PySem.W.findIn K (.ref D) "__getattr__" = some none) &&
  (decide (PySem.W.subIn K (.ref D) (.type "BaseException") = some true) &&
  (PySem.W.hasDictIn K D &&
  (decide (PySem.W.findIn K (.ref D) "__class__" = some (some (.builtin "object.__class__"))) &&
  (decide (PySem.W.specialIn K (.builtin "object.__class__") "__get__" = some (some (.builtin "getset_descriptor.__get__"))) &&
  (decide (PySem.W.takesIn K (.builtin "object.__class__") = some true) &&
  decide (PySem.W.mroIn K D (.type "object") = some true)))))))
def wordB (K : PySem.W.Frag) (j : Nat) : Bool := excCB K (He.ga K (wNm j)) && (decide (PySem.W.exmOne K (.ref (He.ga K (wNm j))) (.ref (He.ga K "WhyError")) = some true) &&
  ([0, 1, 2, 3] : List Nat).all fun i => decide (PySem.W.kitOne K (.ref (He.ga K (wNm j))) (.ref (He.ga K (wNm i))) = some (decide (i = j))))
def moreB (x : Str) (kvs : List (Str × Int)) (tf : List He.Defn) (K : PySem.W.Frag) : Bool :=
  He.valsB K (He.ga K x) (kvs.map fun p => (p.1, He.Dv.int p.2)) && ((([0, 1, 2, 3] : List Nat).all fun j => wordB K j) && decide ((tf.map fun p => (He.cT K p).2).Nodup))
end Wy
end
section
set_option maxRecDepth 100000
set_option maxHeartbeats 0
namespace Hd
open PySem PySem.Spec PyProof.Rows L2
def top (i : Nat) : Stmt := PySem.Challenge.pw_whytongue_k49_whole_states_and_edits.main.body.getD i (.Pass ⟨0, 0, 0, 0⟩)
def mkD (x : Str) (i : Nat) : He.DefD := ⟨(x, none), x, x, defArgs (top i), defBody (top i), defScope (top i), [], []⟩
def fn : List He.DefD := ([mkD "is_integer" 33, mkD "is_within" 34, mkD "is_name" 35, mkD "is_plain" 36, mkD "are_named" 37, mkD "parts_of_whole" 38, mkD "is_fault" 39, mkD "is_told" 40, mkD "is_value" 41, mkD "is_given" 42, mkD "is_store" 43, mkD "are_choices" 44, mkD "check_store" 45, mkD "check_choices" 46, mkD "check_value" 47, mkD "is_step" 48, mkD "is_path" 49, mkD "check_path" 50, mkD "raw_head" 51, mkD "head_of" 52, mkD "raw_steps" 53, mkD "part_by" 54, mkD "raw_part" 55, mkD "part_at" 56, mkD "all_paths" 57, mkD "is_state" 60, mkD "check_state" 61, mkD "state_of" 62, mkD "with_name" 63, mkD "without_name" 64, mkD "under" 65, mkD "step_down" 66, mkD "step_up" 67, mkD "part_put" 68, mkD "with_part" 69, mkD "list_at" 70, mkD "has_edit_form" 71, mkD "new_value" 72, mkD "raw_edited" 73, mkD "made_by_edit" 74] : List He.DefD) ++ ([mkD "is_edit" 75, mkD "edited" 76, mkD "name_back" 77, mkD "edit_back" 78, mkD "is_item" 85, mkD "check_item" 86, mkD "value_by" 87, mkD "raw_told" 88, mkD "told_head" 89, mkD "_law_hand" 91, mkD "_law_draw" 92, mkD "_law_any" 93, mkD "_law_value" 94, mkD "_law_store" 95, mkD "_law_choices" 96, mkD "_law_part" 97, mkD "_law_paths" 98, mkD "_law_with" 99, mkD "_law_found" 100, mkD "_law_set" 101, mkD "_law_edited" 102, mkD "_law_back" 103, mkD "_law_edit" 104, mkD "_law_bad_edit" 105, mkD "_law_word" 106, mkD "_law_are_paths_right" 107, mkD "_law_is_told" 108, mkD "_law_is_edit_right" 109, mkD "_law_are_refused" 110, mkD "law" 111] : List He.DefD)
def fa : List He.Fa := ([.glo "is_integer", .glo "is_within", .glo "is_name", .glo "is_plain", .glo "are_named", .glo "parts_of_whole", .glo "is_fault", .glo "is_told", .glo "is_value", .glo "is_given", .glo "is_store", .glo "are_choices", .glo "check_store", .glo "check_choices", .glo "check_value", .glo "is_step", .glo "is_path", .glo "check_path", .glo "raw_head", .glo "head_of", .glo "raw_steps", .glo "part_by", .glo "raw_part", .glo "part_at", .glo "all_paths", .glo "is_state", .glo "check_state", .glo "state_of", .glo "with_name", .glo "without_name", .glo "under", .glo "step_down", .glo "step_up", .glo "part_put", .glo "with_part", .glo "list_at", .glo "has_edit_form", .glo "new_value", .glo "raw_edited", .glo "made_by_edit"] : List He.Fa) ++ ([.glo "is_edit", .glo "edited", .glo "name_back", .glo "edit_back", .glo "is_item", .glo "check_item", .glo "value_by", .glo "raw_told", .glo "told_head", .glo "_law_hand", .glo "_law_draw", .glo "_law_any", .glo "_law_value", .glo "_law_store", .glo "_law_choices", .glo "_law_part", .glo "_law_paths", .glo "_law_with", .glo "_law_found", .glo "_law_set", .glo "_law_edited", .glo "_law_back", .glo "_law_edit", .glo "_law_bad_edit", .glo "_law_word", .glo "_law_are_paths_right", .glo "_law_is_told", .glo "_law_is_edit_right", .glo "_law_are_refused", .glo "law", .glo "WhyError", .exc "WhyError", .glo "NoValue", .exc "NoValue", .glo "NoPath", .exc "NoPath", .glo "NoStore", .exc "NoStore", .glo "NoChoices", .exc "NoChoices"] : List He.Fa) ++ ([.glo "NoItem", .exc "NoItem", .glo "NoEdit", .exc "NoEdit", .glo "NoState", .exc "NoState", .int "MOST_FIGURE" 1000000000000000000, .int "MOST_SIGNS" 40, .int "BARRED_SIGN" 37, .int "MOST_NAME" 12, .int "MOST_PAIRS" 12, .int "MOST_VALUES" 400, .int "MOST_DEEP" 40, .int "MOST_PARTS" 2000, .int "MOST_GIVEN_VALUES" 40, .int "MOST_GIVEN_DEEP" 12, .int "MOST_NAMES" 30, .int "MOST_STEPS" 500, .str "REC" "rec", .str "CASE" "case", .str "LIST" "list", .str "BROKEN" "broken", .str "FAULT" "fault", .str "CONS" "cons", .str "NIL" "nil", .str "DOT" ".", .str "WITHIN" "!", .str "FIRST" "<", .str "REST" ">", .glo "EDIT_SIZES", .int "MOST_SPOT" 999999, .str "SPOT" "spot", .str "GIVEN" "given", .str "CHOICE" "choice", .str "LACKING" "lacking", .free "ValueError", .free "abs", .free "all", .free "bool", .free "int"] : List He.Fa) ++ ([.free "isinstance", .free "len", .free "list", .free "ord", .free "range", .free "repr", .free "sorted", .free "str", .free "tuple", .free "zip"] : List He.Fa)
def names : List PySem.Str := ((["WhyError", "NoValue", "NoPath", "NoStore", "NoChoices", "NoItem", "NoEdit", "NoState", "MOST_FIGURE", "MOST_SIGNS", "BARRED_SIGN", "MOST_NAME", "MOST_PAIRS", "MOST_VALUES", "MOST_DEEP", "MOST_PARTS", "MOST_GIVEN_VALUES", "MOST_GIVEN_DEEP", "MOST_NAMES", "MOST_STEPS", "REC", "CASE", "LIST", "BROKEN", "FAULT", "CONS", "NIL", "DOT", "WITHIN", "FIRST", "REST", "is_integer", "is_within", "is_name", "is_plain", "are_named", "parts_of_whole", "is_fault", "is_told", "is_value"] : List String) ++ (["is_given", "is_store", "are_choices", "check_store", "check_choices", "check_value", "is_step", "is_path", "check_path", "raw_head", "head_of", "raw_steps", "part_by", "raw_part", "part_at", "all_paths", "EDIT_SIZES", "is_state", "check_state", "state_of", "with_name", "without_name", "under", "step_down", "step_up", "part_put", "with_part", "list_at", "has_edit_form", "new_value", "raw_edited", "made_by_edit", "is_edit", "edited", "name_back", "edit_back", "MOST_SPOT", "SPOT", "GIVEN", "CHOICE"] : List String) ++ (["LACKING", "is_item", "check_item", "value_by", "raw_told", "told_head", "_law_hand", "_law_draw", "_law_any", "_law_value", "_law_store", "_law_choices", "_law_part", "_law_paths", "_law_with", "_law_found", "_law_set", "_law_edited", "_law_back", "_law_edit", "_law_bad_edit", "_law_word", "_law_are_paths_right", "_law_is_told", "_law_is_edit_right", "_law_are_refused"] : List String)).map PySem.Str.ofString
abbrev R : PySem.W.OpenRow := PySem.W.OpenLaw.row PySem.Challenge.rw_whytongue_k49_whole_states_and_edits
def kvs : List (PySem.Str × Int) := [("put", 3), ("drop", 2), ("part", 4), ("ahead", 4), ("cut", 3), ("choose", 3), ("unchoose", 2)]
def ts : List He.Tab := [(fun K => He.ga K "EDIT_SIZES", kvs.map (·.1))]
def tf : List He.Defn := [("with_name", none), ("_law_are_paths_right", none), ("_law_is_edit_right", none), ("_law_are_refused", none)]
def ex (K : PySem.W.Frag) : Bool := Wy.moreB "EDIT_SIZES" kvs tf K
abbrev hk : PySem.W.Hook := He.hookX 2 fa fn ts tf ex
def ob (s : PySem.W.SharedT) : He.AlX := He.obsX 2 fa fn ts tf ex (HandSHeadRun.getT s)
theorem ob_eq (s : PySem.W.SharedT) : ob s = hk.obs s.abs := He.obsX_eq (HandSHeadRun.getT_eq s)
theorem runF (w : World) : HandSHeadRun.RunEq R (PySem.W.view R.prog [111]) hk ob 20000 names (w.withFollow "special-get-raises" false) := by
  intro os
  kernel_rfl
theorem runT (w : World) : HandSHeadRun.RunEq R (PySem.W.view R.prog [111]) hk ob 20000 names (w.withFollow "special-get-raises" true) := by
  intro os
  kernel_rfl
theorem run (w : World) : HandSHeadRun.RunEq R (PySem.W.view R.prog [111]) hk ob 20000 names w := PySem.W.byRow2 "special-get-raises" (P := fun w => HandSHeadRun.RunEq R (PySem.W.view R.prog [111]) hk ob 20000 names w) runF runT w
end Hd
end
section
set_option maxRecDepth 100000
set_option maxHeartbeats 2000000
namespace Wy
open PySem PySem.Spec PyProof.Rows L2

/-! ### values as trees, shared lists by number -/
inductive U where
  | non | bl (b : Bool) | int (i : Int) | str (s : Str)
  | tup (xs : List U) | lst (xs : List U) | fz (xs : List U) | emp | ref (r : Nat)

inductive Slot where
  | nil | v (u : U) | own (xs : List U)

abbrev En := List Slot
abbrev Sto := List (List U)

mutual
/-- a value stands in the part J that never changes; μ: where the shared lists stand -/
inductive RU (K : PySem.W.Frag) (μ : List Addr) (J : Hp) : U → V → Prop
  | non : RU K μ J .non .non
  | bl (b : Bool) : RU K μ J (.bl b) (.bl b)
  | int (i : Int) : RU K μ J (.int i) (.int i)
  | str (s : Str) : RU K μ J (.str s) (.str s)
  | tup {a : Addr} {us : List U} {vs : List V} : SqT K J a vs → RUs K μ J us vs → RU K μ J (.tup us) (.ref a)
  | lst {a : Addr} {us : List U} {vs : List V} : J a = some (.lst vs) → RUs K μ J us vs → RU K μ J (.lst us) (.ref a)
  | fz {a : Addr} {us : List U} {vs : List V} : SqL K J a vs → RUs K μ J us vs → RU K μ J (.fz us) (.ref a)
  | emp {a : Addr} : J a = some (.dK []) → RU K μ J .emp (.ref a)
  | ref {r : Nat} {a : Addr} : μ[r]? = some a → RU K μ J (.ref r) (.ref a)
inductive RUs (K : PySem.W.Frag) (μ : List Addr) (J : Hp) : List U → List V → Prop
  | nil : RUs K μ J [] []
  | cons {u : U} {us : List U} {v : V} {vs : List V} : RU K μ J u v → RUs K μ J us vs → RUs K μ J (u :: us) (v :: vs)
end

section
variable {K : PySem.W.Frag} {μ μ' : List Addr} {J J' H H' : Hp}
def Sub (J J' : Hp) : Prop := ∀ b o, J b = some o → J' b = some o
theorem Sub.refl (J : Hp) : Sub J J := fun _ _ h => h
theorem Sub.trans {J J1 J2 : Hp} (a : Sub J J1) (b : Sub J1 J2) : Sub J J2 := fun c o h => b c o (a c o h)
theorem Sub.rd {a : Addr} {u : HO} (s : Sub J J') (h : Rd J a u) : Rd J' a u := by
  rcases h with h | ⟨o, h⟩
  · exact .inl (s _ _ h)
  · exact .inr ⟨o, s _ _ h⟩
theorem Sub.sqT {a : Addr} {vs : List V} (s : Sub J J') (h : SqT K J a vs) : SqT K J' a vs := by
  rcases h with h | h
  · exact .inl (s.rd h)
  · exact .inr h
theorem Sub.sqL {a : Addr} {vs : List V} (s : Sub J J') (h : SqL K J a vs) : SqL K J' a vs := by
  rcases h with h | h
  · exact .inl (s.rd h)
  · exact .inr h
def Pre (μ μ' : List Addr) : Prop := ∀ (r : Nat) (a : Addr), μ[r]? = some a → μ'[r]? = some a
mutual
theorem RU.mono (s : Sub J J') (p : Pre μ μ') : ∀ {u : U} {v : V}, RU K μ J u v → RU K μ' J' u v
  | _, _, .non => .non
  | _, _, .bl b => .bl b
  | _, _, .int i => .int i
  | _, _, .str x => .str x
  | _, _, .tup h r => .tup (s.sqT h) (RUs.mono s p r)
  | _, _, .lst h r => .lst (s _ _ h) (RUs.mono s p r)
  | _, _, .fz h r => .fz (s.sqL h) (RUs.mono s p r)
  | _, _, .emp h => .emp (s _ _ h)
  | _, _, .ref h => .ref (p _ _ h)
theorem RUs.mono (s : Sub J J') (p : Pre μ μ') : ∀ {us : List U} {vs : List V}, RUs K μ J us vs → RUs K μ' J' us vs
  | _, _, .nil => .nil
  | _, _, .cons h r => .cons (RU.mono s p h) (RUs.mono s p r)
end
theorem RUs.length : ∀ {us : List U} {vs : List V}, RUs K μ J us vs → us.length = vs.length
  | _, _, .nil => rfl
  | _, _, .cons _ r => by simp [RUs.length r]
theorem RUs.get : ∀ {us : List U} {vs : List V} {i : Nat} {u : U}, RUs K μ J us vs → us[i]? = some u → ∃ v, vs[i]? = some v ∧ RU K μ J u v
  | _, _, _, _, .nil, e => by simp at e
  | _, _, 0, _, .cons h _, e => by simp at e; subst e; exact ⟨_, rfl, h⟩
  | _, _, i + 1, u, .cons _ r, e => by
    obtain ⟨v, h1, h2⟩ := RUs.get (i := i) (u := u) r (by simpa using e)
    exact ⟨v, by simpa using h1, h2⟩
theorem RUs.append : ∀ {us us' : List U} {vs vs' : List V}, RUs K μ J us vs → RUs K μ J us' vs' → RUs K μ J (us ++ us') (vs ++ vs')
  | _, _, _, _, .nil, s => s
  | _, _, _, _, .cons h r, s => .cons h (RUs.append r s)
theorem RUs.take : ∀ {us : List U} {vs : List V} (n : Nat), RUs K μ J us vs → RUs K μ J (us.take n) (vs.take n)
  | _, _, 0, _ => .nil
  | _, _, _ + 1, .nil => .nil
  | _, _, n + 1, .cons h r => .cons h (RUs.take n r)
theorem RUs.drop : ∀ {us : List U} {vs : List V} (n : Nat), RUs K μ J us vs → RUs K μ J (us.drop n) (vs.drop n)
  | _, _, 0, r => r
  | _, _, _ + 1, .nil => .nil
  | _, _, n + 1, .cons _ r => RUs.drop n r
theorem RUs.reverse {us : List U} {vs : List V} (r : RUs K μ J us vs) : RUs K μ J us.reverse vs.reverse := by
  induction us generalizing vs with
  | nil => cases r; exact .nil
  | cons u us ih =>
    cases r with
    | cons h r => rw [List.reverse_cons, List.reverse_cons]; exact RUs.append (ih r) (.cons h .nil)
theorem RUs.set {u : U} {v : V} (h : RU K μ J u v) : ∀ {us : List U} {vs : List V} (i : Nat), RUs K μ J us vs → RUs K μ J (us.set i u) (vs.set i v)
  | _, _, _, .nil => .nil
  | _, _, 0, .cons _ r => .cons h r
  | _, _, i + 1, .cons q r => .cons q (RUs.set h i r)
theorem RUs.nil_iff {us : List U} {vs : List V} (r : RUs K μ J us vs) : us = [] ↔ vs = [] := by
  cases r with
  | nil => simp
  | cons _ _ => simp
end

/-! ### the state -/
variable (K : PySem.W.Frag) (T : List (Addr × Str))
def RSl (μ : List Addr) (J H : Hp) : Slot → Option V → Prop
  | .nil, _ => True
  | .v u, o => ∃ v, o = some v ∧ RU K μ J u v
  | .own us, o => ∃ p vs, o = some (.ref p) ∧ H p = some (.lst vs) ∧ J p = none ∧ p ∉ μ ∧ RUs K μ J us vs
structure Rel (μ : List Addr) (J : Hp) (ρ : En) (S : Sto) (σ : L2.St) (H : Hp) : Prop where
  len : ρ.length = σ.length
  jh : Sub J H
  ml : μ.length = S.length
  mn : μ.Nodup
  st : ∀ (r : Nat) (us : List U) (a : Addr), S[r]? = some us → μ[r]? = some a → ∃ vs, H a = some (.lst vs) ∧ J a = none ∧ RUs K μ J us vs
  sl : ∀ (i : Nat) (s : Slot) (o : Option V), ρ[i]? = some s → σ[i]? = some o → RSl K μ J H s o
  inj : ∀ (i j : Nat) (us ws : List U) (p : Addr), ρ[i]? = some (.own us) → ρ[j]? = some (.own ws) → σ[i]? = some (some (.ref p)) → σ[j]? = some (some (.ref p)) → i = j
  tab : LamX.Tabs T H
  jt : ∀ b ps, J b ≠ some (.tbl ps)
/-- nothing that may change stands there, but for a table -/
def Fr0 (H : Hp) (b : Addr) : Prop := ∀ o, H b = some o → ∃ ps, o = .tbl ps
theorem Fr0.of {H : Hp} {b : Addr} (h : H b = none) : Fr0 H b := fun o e => by rw [h] at e; cases e
theorem Fr0.no {H : Hp} {b : Addr} {o : HO} (h : H b = some o) (n : ∀ ps, o ≠ .tbl ps) : ¬ Fr0 H b := fun f => by
  obtain ⟨ps, e⟩ := f o h
  exact n ps e
/-- from one state to a later one: shared lists may have changed, all else that was is as it was -/
structure Step (μ : List Addr) (J H : Hp) (μ' : List Addr) (J' H' : Hp) : Prop where
  pre : ∃ t, μ' = μ ++ t ∧ ∀ a ∈ t, Fr0 H a
  jj : Sub J J'
  jn : ∀ b, ¬ Fr0 H b → J' b = J b
  fr : ∀ b o, H b = some o → b ∉ μ → (∀ ps, o ≠ .tbl ps) → H' b = some o
  th : ∀ b, Fr0 H' b → Fr0 H b
variable {K T}
theorem Step.refl (μ : List Addr) (J H : Hp) : Step μ J H μ J H := ⟨⟨[], by simp, by simp⟩, Sub.refl _, fun _ _ => rfl, fun _ _ h _ _ => h, fun _ h => h⟩
theorem Step.trans {μ μ1 μ2 : List Addr} {J J1 J2 H H1 H2 : Hp} (a : Step μ J H μ1 J1 H1) (b : Step μ1 J1 H1 μ2 J2 H2) : Step μ J H μ2 J2 H2 := by
  obtain ⟨t1, e1, f1⟩ := a.pre
  obtain ⟨t2, e2, f2⟩ := b.pre
  refine ⟨⟨t1 ++ t2, by rw [e2, e1, List.append_assoc], fun c hc => ?_⟩, a.jj.trans b.jj, fun c hc => (b.jn c fun z => hc (a.th c z)).trans (a.jn c hc), fun c o h n nt => ?_, fun c h => a.th c (b.th c h)⟩
  · rcases List.mem_append.mp hc with hc | hc
    · exact f1 c hc
    · exact a.th c (f2 c hc)
  · refine b.fr c o (a.fr c o h n nt) (fun hm => ?_) nt
    rw [e1] at hm
    rcases List.mem_append.mp hm with hm | hm
    · exact n hm
    · exact Fr0.no h nt (f1 c hm)
theorem Step.ext {μ μ' : List Addr} {J J' H H' : Hp} (a : Step μ J H μ' J' H') : Pre μ μ' := by
  obtain ⟨t, e, _⟩ := a.pre
  intro r x hx
  rw [e]
  have : r < μ.length := (List.getElem?_eq_some_iff.mp hx).1
  rw [List.getElem?_append_left this]
  exact hx
theorem Pre.mem {μ μ' : List Addr} (p : Pre μ μ') {a : Addr} (h : a ∈ μ) : a ∈ μ' := by
  obtain ⟨r, hr⟩ := List.getElem?_of_mem h
  exact List.mem_of_getElem? (p r a hr)
theorem Step.ru {μ μ' : List Addr} {J J' H H' : Hp} (a : Step μ J H μ' J' H') {u : U} {v : V} (r : RU K μ J u v) : RU K μ' J' u v := r.mono a.jj a.ext
theorem Step.rus {μ μ' : List Addr} {J J' H H' : Hp} (a : Step μ J H μ' J' H') {u : List U} {v : List V} (r : RUs K μ J u v) : RUs K μ' J' u v := r.mono a.jj a.ext
/-- a fresh list is still the same behind a step -/
theorem Step.keep {μ μ' : List Addr} {J J' H H' : Hp} (a : Step μ J H μ' J' H') {p : Addr} {vs : List V} (h : H p = some (.lst vs)) (hJ : J p = none) (hm : p ∉ μ) : H' p = some (.lst vs) ∧ J' p = none ∧ p ∉ μ' := by
  refine ⟨a.fr p _ h hm (fun ps e => nomatch e), (a.jn p (Fr0.no h (fun ps e => nomatch e))).trans hJ, fun hp => ?_⟩
  obtain ⟨t, e, f⟩ := a.pre
  rw [e] at hp
  rcases List.mem_append.mp hp with hp | hp
  · exact hm hp
  · exact Fr0.no h (fun ps e => nomatch e) (f p hp)

theorem tabs_ext {H H' : Hp} (t : LamX.Tabs T H) (e : ∀ b o, H b = some o → H' b = some o) : LamX.Tabs T H' := t.ext e
theorem tabs_upd {H : Hp} {p : Addr} {vs ws : List V} (t : LamX.Tabs T H) (h : H p = some (.lst vs)) : LamX.Tabs T (upd H p (.lst ws)) := by
  have key : ∀ b o, H b = some o → (∀ xs, o ≠ .lst xs) → upd H p (.lst ws) b = some o := fun b o e n => by
    have : b ≠ p := fun q => by subst q; rw [h] at e; cases e; exact n vs rfl
    rw [upd_ne this]; exact e
  intro q hq
  obtain ⟨ps, h1, h2, h3⟩ := t q hq
  refine ⟨ps, key _ _ h1 (fun _ e => nomatch e), h2, fun pos cv hc => ?_⟩
  obtain ⟨c, e1, e2⟩ := h3 pos cv hc
  exact ⟨c, e1, key _ _ e2 (fun _ e => nomatch e)⟩
end Wy
end
section
set_option maxRecDepth 100000
set_option maxHeartbeats 2000000
namespace Wy
open PySem PySem.Spec PyProof.Rows L2
/-! ### the core tongue -/
inductive Bop where | add | sub | mul | fdiv | mod | pow
inductive Cop where | eq | ne | lt | le | gt | ge | isin | notin
inductive Bf where | len | int | abs | ord | tuple | all | list
inductive Ty where | int | bool | str | tuple | list
inductive Tg where | n (i : Nat) | t2 (i j : Nat) | t3 (i j k : Nat)
mutual
inductive CE where
  | var (i : Nat)
  | k (u : U)
  | glo (x : Str) (u : U)
  | tup (es : CEs)
  | ofL (l : CL)
  | emp
  | bin (o : Bop) (a b : CE)
  | neg (a : CE)
  | cmp (o : Cop) (a b : CE)
  | isN (a : CE) | notN (a : CE)
  | isB (b : Bool) (a : CE) | notB (b : Bool) (a : CE)
  | chain (o1 o2 : Cop) (a b c : CE)
  | not (a : CE)
  | and (es : CEs) | or (es : CEs)
  | ite (c a b : CE)
  | sub (a i : CE)
  | slc (a : CE) (lo hi : CO)
  | rev (a : CE)
  | call (f : Nat) (es : CEs)
  | blt (f : Bf) (a : CE)
  | isi (a : CE) (t : Ty)
  | olen (i : Nat)
  | dget (x : Str) (kvs : List (Str × Int)) (a : CE) (d : Int)
  | word (e : CE)
  | sortL (a : CE) | sortK (a : CE)
  | stop
inductive CEs where
  | nil
  | cons (e : CE) (es : CEs)
inductive CO where
  | no
  | so (e : CE)
inductive CL where
  | disp (es : CEs)
  | comp (elt : CE) (tg : Tg) (it : CI) (c : CO) (own : List (Str × Nat))
inductive CI where
  | seq (a : CE)
  | range (a : CE)
  | range2 (a b : CE)
  | zip (a b : CE)
end
mutual
inductive CS where
  | asg (i : Nat) (e : CE)
  | own (i : Nat) (l : CL)
  | alc (i : Nat) (l : CL)
  | parO (i j : Nat) (a b : CE)
  | unp (tg : Tg) (e : CE)
  | frz (i : Nat)
  | sidx (a i e : CE)
  | aug (i : Nat) (e : CE)
  | app (i : Nat) (e : CE)
  | ext (i : Nat) (e : CE)
  | popU (tg : Tg) (j : Nat)
  | ite (c : CE) (a b : CB)
  | whl (c : CE) (b : CB)
  | for_ (tg : Tg) (it : CI) (b : CB)
  | ret (e : CE)
  | retA (l : CL)
  | raise (c : Str)
  | exp (e : CE)
  | brk | cnt | pass
inductive CB where
  | nil
  | cons (s : CS) (b : CB)
end

/-! ### what it means -/
inductive Out (α : Type) where
  | ok (a : α)
  | err (c : Str)
abbrev UM (α : Type) := Option (Out α × Sto)
def bindO {α β : Type} (m : UM α) (f : α → Sto → UM β) : UM β := match m with
  | none => none
  | some (.err c, S) => some (.err c, S)
  | some (.ok a, S) => f a S
def pureO {α : Type} (a : α) (S : Sto) : UM α := some (.ok a, S)
def optO {α : Type} (o : Option α) (S : Sto) : UM α := match o with
  | none => none
  | some a => some (.ok a, S)
/-- most items of a list or a tuple, signs of a text -/
def line : Nat := 1000000
mutual
def toPy : U → Option PyData
  | .non => some .none
  | .bl b => some (.bool b)
  | .int i => some (.int i)
  | .str s => some (.str s)
  | .tup xs => (toPys xs).map .tuple
  | .lst xs => (toPys xs).map .list
  | .fz xs => (toPys xs).map .list
  | .emp => none
  | .ref _ => none
def toPys : List U → Option (List PyData)
  | [] => some []
  | x :: xs => match toPy x with
    | none => none
    | some d => match toPys xs with
      | none => none
      | some ds => some (d :: ds)
end
def uEq (a b : U) : Option Bool := match toPy a, toPy b with
  | some d, some e => if SeqAt.shaped d = true ∧ SeqAt.shaped e = true then some (PyData.eqv d e) else none
  | _, _ => none
def flatU : U → Bool
  | .non => true | .bl _ => true | .int _ => true | .str _ => true
  | _ => false
def eqF : U → U → Bool
  | .non, .non => true
  | .bl a, .bl b => decide (a = b)
  | .int i, .int j => decide (i = j)
  | .bl a, .int j => decide ((if a then (1 : Int) else 0) = j)
  | .int i, .bl b => decide (i = (if b then (1 : Int) else 0))
  | .str a, .str b => decide (a = b)
  | _, _ => false
def uAdd : U → U → Option U
  | .int i, .int j => some (.int (i + j))
  | .str a, .str b => if a.length + b.length ≤ line then some (.str (a ++ b)) else none
  | .tup a, .tup b => if a.length + b.length ≤ line then some (.tup (a ++ b)) else none
  | .lst a, .lst b => if a.length + b.length ≤ line then some (.lst (a ++ b)) else none
  | _, _ => none
def mulOk (i j : Int) : Bool := (decide (-(2 ^ 64) < i) && decide (i < 2 ^ 64)) || (decide (-(2 ^ 64) < j) && decide (j < 2 ^ 64))
def uBin : Bop → U → U → Option U
  | .add, a, b => uAdd a b
  | .sub, .int i, .int j => some (.int (i - j))
  | .mul, .int i, .int j => if mulOk i j = true then some (.int (i * j)) else none
  | .fdiv, .int i, .int j => if 0 < j ∧ j < 1073741824 then some (.int (i / j)) else none
  | .mod, .int i, .int j => if 0 < j then some (.int (i % j)) else none
  | .pow, .int i, .int j => if 0 ≤ j ∧ j ≤ 1000 ∧ i.natAbs < 1000 then some (.int (i ^ j.toNat)) else none
  | _, _, _ => none
def uCmp : Cop → U → U → Option Bool
  | .eq, a, b => uEq a b
  | .ne, a, b => (uEq a b).map (!·)
  | .lt, .int i, .int j => some (decide (i < j))
  | .le, .int i, .int j => some (decide (i ≤ j))
  | .gt, .int i, .int j => some (decide (j < i))
  | .ge, .int i, .int j => some (decide (j ≤ i))
  | .lt, .str i, .str j => some (decide (i.cps.toList < j.cps.toList))
  | .le, .str i, .str j => some (!decide (j.cps.toList < i.cps.toList))
  | .isin, x, .tup xs => if flatU x = true ∧ xs.all flatU = true then some (xs.any fun y => eqF y x) else none
  | .isin, x, .lst xs => if flatU x = true ∧ xs.all flatU = true then some (xs.any fun y => eqF y x) else none
  | .notin, x, .tup xs => if flatU x = true ∧ xs.all flatU = true then some (!(xs.any fun y => eqF y x)) else none
  | .notin, x, .lst xs => if flatU x = true ∧ xs.all flatU = true then some (!(xs.any fun y => eqF y x)) else none
  | _, _, _ => none
def seqOf (S : Sto) : U → Option (List U)
  | .tup xs => some xs
  | .lst xs => some xs
  | .fz xs => some xs
  | .ref r => S[r]?
  | _ => none
def uIdx (S : Sto) (a i : U) : Option U := match i with
  | .int i => (match a with
    | .str s => if s.length ≤ line then (atI s.cps.toList i).map fun c => .str ⟨#[c]⟩ else none
    | a => (seqOf S a).bind fun xs => atI xs i)
  | _ => none
def cutU (xs : List U) (lo hi : Option Int) : List U := (xs.drop (HT.sIx xs.length 0 lo)).take (HT.sIx xs.length xs.length hi - HT.sIx xs.length 0 lo)
def uSlc (a : U) (lo hi : Option Int) : Option U := match a with
  | .tup xs => some (.tup (cutU xs lo hi))
  | .lst xs => some (.lst (cutU xs lo hi))
  | .fz xs => some (.lst (cutU xs lo hi))
  | .str s => if s.length ≤ line then some (.str (cutS s lo hi)) else none
  | _ => none
def uRev : U → Option U
  | .tup xs => some (.tup xs.reverse)
  | .lst xs => some (.lst xs.reverse)
  | _ => none
def bools : List U → Option (List Bool)
  | [] => some []
  | .bl b :: r => (bools r).map (b :: ·)
  | _ => none
def uBlt (S : Sto) : Bf → U → Option U
  | .len, .str s => if s.length ≤ line then some (.int s.length) else none
  | .len, a => (seqOf S a).map fun xs => .int xs.length
  | .int, .int i => some (.int i)
  | .int, .bl b => some (.int (if b then 1 else 0))
  | .abs, .int i => some (.int (if i < 0 then -i else i))
  | .ord, .str s => if s.length = 1 then some (.int (s.cps.getD 0 0 : Nat)) else none
  | .tuple, .tup xs => some (.tup xs)
  | .tuple, .lst xs => some (.tup xs)
  | .list, .tup xs => some (.lst xs)
  | .list, .lst xs => some (.lst xs)
  | .all, .lst xs => (bools xs).map fun bs => .bl (bs.all id)
  | _, _ => none
def isiU : Ty → U → Bool
  | .int, .int _ => true
  | .int, .bl _ => true
  | .bool, .bl _ => true
  | .str, .str _ => true
  | .tuple, .tup _ => true
  | .list, .lst _ => true
  | .list, .fz _ => true
  | .list, .ref _ => true
  | _, _ => false
def isNonU : U → Bool
  | .non => true
  | _ => false
def asB : U → Option Bool
  | .bl b => some b
  | _ => none
def asI : U → Option Int
  | .int b => some b
  | _ => none
def slotU : Option Slot → Option U
  | some (.v u) => some u
  | _ => none
def ownLen : Option Slot → Option U
  | some (.own us) => some (.int us.length)
  | _ => none
def tup2 : U → Option (U × U)
  | .tup [a, b] => some (a, b)
  | _ => none
def tup3 : U → Option (U × U × U)
  | .tup [a, b, c] => some (a, b, c)
  | _ => none
def setTg : Tg → U → En → Option En
  | .n i, u, ρ => some (ρ.set i (.v u))
  | .t2 i j, u, ρ => (tup2 u).map fun p => (ρ.set i (.v p.1)).set j (.v p.2)
  | .t3 i j k, u, ρ => (tup3 u).map fun p => ((ρ.set i (.v p.1)).set j (.v p.2.1)).set k (.v p.2.2)
def wipeU (ρ : En) : List Nat → En
  | [] => ρ
  | i :: r => (wipeU ρ r).set i .nil
/-- the texts of a list, put in order -/
def strsOf : List U → Option (List Str)
  | [] => some []
  | .str s :: r => (strsOf r).map (s :: ·)
  | _ => none
def ltS (a b : Str) : Bool := decide (a.cps.toList < b.cps.toList)
/-- put into a row in order, behind those that are not greater -/
def insS {α : Type} (key : α → Str) (x : α) : List α → List α
  | [] => [x]
  | y :: r => if ltS (key x) (key y) = true then x :: y :: r else y :: insS key x r
def srtS {α : Type} (key : α → Str) (xs : List α) : List α := xs.foldr (insS key) []
def uSort : U → Option U
  | .lst xs => if xs.length < 64 then (strsOf xs).map fun ss => .lst ((srtS id ss).map .str) else none
  | _ => none
def keyOf : U → Option Str
  | .tup (.str s :: _) => some s
  | _ => none
def keyD (u : U) : Str := (keyOf u).getD Str.empty
def uSortK : U → Option U
  | .lst xs => if xs.length < 64 ∧ xs.all (fun u => (keyOf u).isSome) = true ∧ (xs.map keyD).Nodup then some (.lst (srtS keyD xs)) else none
  | _ => none
/-- one item of a comprehension after another -/
def compL (ev : U → Sto → UM (Option U)) : List U → Sto → UM (List U)
  | [], S => pureO [] S
  | x :: xs, S => match ev x S with
    | some (.ok o, S') => (match compL ev xs S' with
      | some (.ok r, S'') => some (.ok (match o with | some u => u :: r | none => r), S'')
      | _ => none)
    | _ => none
def rangeU (lo : Int) (n : Nat) : List U := (List.range n).map fun (i : Nat) => U.int (lo + i)
/-- a value as a test's answer -/
def tst (m : En → Sto → UM U) : En → Sto → UM Bool := fun ρ S => bindO (m ρ S) fun u S => optO (asB u) S
/-- a text's signs -/
def signs (s : Str) : List U := s.cps.toList.map fun c => .str ⟨#[c]⟩
def seqM (u : U) (S : Sto) : UM (List U) := match u with
    | .tup xs => pureO xs S
    | .lst xs => pureO xs S
    | .fz xs => pureO xs S
    | .str s => pureO (signs s) S
    | _ => none
def zipM (u w : U) (S : Sto) : UM (List U) := match u, w with
    | .lst xs, .tup ys => if xs.length = ys.length then pureO ((xs.zip ys).map fun p => .tup [p.1, p.2]) S else none
    | _, _ => none
section
variable (fn : Nat → List U → Sto → UM U) (wd : UM U → UM U)
mutual
def evE : CE → En → Sto → UM U
  | .var i, ρ, S => optO (slotU ρ[i]?) S
  | .k u, _, S => pureO u S
  | .glo _ u, _, S => pureO u S
  | .tup es, ρ, S => bindO (evEs es ρ S) fun us S => if us.length ≤ line then pureO (.tup us) S else none
  | .ofL l, ρ, S => bindO (evL l ρ S) fun us S => pureO (.lst us) S
  | .emp, _, S => pureO .emp S
  | .bin o a b, ρ, S => bindO (evE a ρ S) fun u S => bindO (evE b ρ S) fun w S => optO (uBin o u w) S
  | .neg a, ρ, S => bindO (evE a ρ S) fun u S => optO ((asI u).map fun i => .int (-i)) S
  | .cmp o a b, ρ, S => bindO (evE a ρ S) fun u S => bindO (evE b ρ S) fun w S => optO ((uCmp o u w).map .bl) S
  | .isN a, ρ, S => bindO (evE a ρ S) fun u S => pureO (.bl (isNonU u)) S
  | .notN a, ρ, S => bindO (evE a ρ S) fun u S => pureO (.bl (!isNonU u)) S
  | .isB c a, ρ, S => bindO (evE a ρ S) fun u S => optO ((asB u).map fun b => .bl (decide (b = c))) S
  | .notB c a, ρ, S => bindO (evE a ρ S) fun u S => optO ((asB u).map fun b => .bl (!decide (b = c))) S
  | .chain o1 o2 a b c, ρ, S => bindO (evE a ρ S) fun u S => bindO (evE b ρ S) fun w S => match uCmp o1 u w with
    | some true => bindO (evE c ρ S) fun z S => optO ((uCmp o2 w z).map .bl) S
    | some false => pureO (.bl false) S
    | none => none
  | .not a, ρ, S => bindO (evE a ρ S) fun u S => optO ((asB u).map fun b => .bl (!b)) S
  | .and es, ρ, S => evAnd es ρ S
  | .or es, ρ, S => evOr es ρ S
  | .ite c a b, ρ, S => bindO (evE c ρ S) fun u S => match asB u with
    | some true => evE a ρ S
    | some false => evE b ρ S
    | none => none
  | .sub a i, ρ, S => bindO (evE a ρ S) fun u S => bindO (evE i ρ S) fun w S => optO (uIdx S u w) S
  | .slc a lo hi, ρ, S => bindO (evE a ρ S) fun u S => bindO (evO lo ρ S) fun l S => bindO (evO hi ρ S) fun h S => optO (uSlc u l h) S
  | .rev a, ρ, S => bindO (evE a ρ S) fun u S => optO (uRev u) S
  | .call f es, ρ, S => bindO (evEs es ρ S) fun us S => fn f us S
  | .blt f a, ρ, S => bindO (evE a ρ S) fun u S => optO (uBlt S f u) S
  | .isi a t, ρ, S => bindO (evE a ρ S) fun u S => pureO (.bl (isiU t u)) S
  | .olen i, ρ, S => optO (ownLen ρ[i]?) S
  | .dget _ kvs a d, ρ, S => bindO (evE a ρ S) fun u S => match u with
    | .str s => pureO (.int ((kvs.lookup s).getD d)) S
    | _ => none
  | .word e, ρ, S => wd (evE e ρ S)
  | .sortL a, ρ, S => bindO (evE a ρ S) fun u S => optO (uSort u) S
  | .sortK a, ρ, S => bindO (evE a ρ S) fun u S => optO (uSortK u) S
  | .stop, _, _ => none
def evEs : CEs → En → Sto → UM (List U)
  | .nil, _, S => pureO [] S
  | .cons e es, ρ, S => bindO (evE e ρ S) fun u S => bindO (evEs es ρ S) fun us S => pureO (u :: us) S
def evAnd : CEs → En → Sto → UM U
  | .nil, _, _ => none
  | .cons e .nil, ρ, S => bindO (evE e ρ S) fun u S => optO ((asB u).map .bl) S
  | .cons e es, ρ, S => bindO (evE e ρ S) fun u S => match asB u with
    | some true => evAnd es ρ S
    | some false => pureO (.bl false) S
    | none => none
def evOr : CEs → En → Sto → UM U
  | .nil, _, _ => none
  | .cons e .nil, ρ, S => bindO (evE e ρ S) fun u S => optO ((asB u).map .bl) S
  | .cons e es, ρ, S => bindO (evE e ρ S) fun u S => match asB u with
    | some true => pureO (.bl true) S
    | some false => evOr es ρ S
    | none => none
def evO : CO → En → Sto → UM (Option Int)
  | .no, _, S => pureO none S
  | .so e, ρ, S => bindO (evE e ρ S) fun u S => optO ((asI u).map some) S
def evT : CO → En → Sto → UM Bool
  | .no, _, S => pureO true S
  | .so e, ρ, S => bindO (evE e ρ S) fun u S => optO (asB u) S
def evL : CL → En → Sto → UM (List U)
  | .disp es, ρ, S => bindO (evEs es ρ S) fun us S => if us.length ≤ line then pureO us S else none
  | .comp elt tg it c own, ρ, S => bindO (evI it ρ S) fun xs S => if xs.length ≤ line then compL (fun x S => match setTg tg x (wipeU ρ (own.map (·.2))) with
    | none => none
    | some ρ' => bindO (evT c ρ' S) fun b S => if b = true then bindO (evE elt ρ' S) fun u S => pureO (some u) S else pureO none S) xs S else none
def evI : CI → En → Sto → UM (List U)
  | .seq a, ρ, S => bindO (evE a ρ S) seqM
  | .range a, ρ, S => bindO (evE a ρ S) fun u S => (match u with
    | .int i => if -1000000 ≤ i ∧ i ≤ 1000000 then pureO (rangeU 0 i.toNat) S else none
    | _ => none)
  | .range2 a b, ρ, S => bindO (evE a ρ S) fun u S => bindO (evE b ρ S) fun w S => (match u, w with
    | .int i, .int j => if -1000000 ≤ i ∧ i ≤ 1000000 ∧ -1000000 ≤ j ∧ j ≤ 1000000 then pureO (rangeU i (j - i).toNat) S else none
    | _, _ => none)
  | .zip a b, ρ, S => bindO (evE a ρ S) fun u S => bindO (evE b ρ S) fun w S => zipM u w S
end
/-! ### statements -/
inductive Fl where
  | nx (ρ : En) | ret (u : U) | brk (ρ : En) | cnt (ρ : En) | err (c : Str)
abbrev SM := Option (Fl × Sto)
def bindE {α : Type} (m : UM α) (f : α → Sto → SM) : SM := match m with
  | none => none
  | some (.err c, S) => some (.err c, S)
  | some (.ok a, S) => f a S
def nxS (ρ : En) (S : Sto) : SM := some (.nx ρ, S)
def optS (o : Option En) (S : Sto) : SM := match o with
  | some ρ => some (.nx ρ, S)
  | none => none
/-- a loop over items -/
def forL (tg : Tg) (body : En → Sto → SM) : List U → En → Sto → SM
  | [], ρ, S => nxS ρ S
  | x :: xs, ρ, S => match setTg tg x ρ with
    | none => none
    | some ρ' => match body ρ' S with
      | some (.nx ρ'', S'') => forL tg body xs ρ'' S''
      | some (.cnt ρ'', S'') => forL tg body xs ρ'' S''
      | some (.brk ρ'', S'') => nxS ρ'' S''
      | r => r
/-- so many turns at most -/
def whlL (c : En → Sto → UM U) (body : En → Sto → SM) : Nat → En → Sto → SM
  | 0, _, _ => none
  | n + 1, ρ, S => bindE (c ρ S) fun u S => match asB u with
    | none => none
    | some false => nxS ρ S
    | some true => match body ρ S with
      | some (.nx ρ'', S'') => whlL c body n ρ'' S''
      | some (.cnt ρ'', S'') => whlL c body n ρ'' S''
      | some (.brk ρ'', S'') => nxS ρ'' S''
      | r => r
/-- a value, or a list that nothing else holds -/
inductive VP where
  | v (u : U) | l (us : List U)
def slotP : VP → Slot
  | .v u => .v u
  | .l us => .own us
def evP : CE → En → Sto → UM VP
  | .ofL l, ρ, S => bindO (evL fn wd l ρ S) fun us S => pureO (.l us) S
  | e, ρ, S => bindO (evE fn wd e ρ S) fun u S => pureO (.v u) S
def ownOf : Option Slot → Option (List U)
  | some (.own us) => some us
  | _ => none
def lstOf : U → Option (List U)
  | .lst us => some us
  | _ => none
def frzU (i : Nat) : En → Sto → SM := fun ρ S => match ownOf ρ[i]? with
  | some us => nxS (ρ.set i (.v (.lst us))) S
  | none => none
def appU (i : Nat) (m : En → Sto → UM U) : En → Sto → SM := fun ρ S => match ownOf ρ[i]? with
  | some us => bindE (m ρ S) fun u S => if us.length < line then nxS (ρ.set i (.own (us ++ [u]))) S else none
  | none => none
def extU (i : Nat) (m : En → Sto → UM U) : En → Sto → SM := fun ρ S => match ownOf ρ[i]? with
  | some us => bindE (m ρ S) fun u S => match lstOf u with
    | some ws => if us.length + ws.length ≤ line then nxS (ρ.set i (.own (us ++ ws))) S else none
    | none => none
  | none => none
def popM (tg : Tg) (j : Nat) : En → Sto → SM := fun ρ S => match ownOf ρ[j]? with
  | some us => (match us.getLast? with
    | some u => optS (setTg tg u (ρ.set j (.own us.dropLast))) S
    | none => none)
  | none => none
def refOf : U → Option Nat
  | .ref r => some r
  | _ => none
def sidxM (ρ : En) (u k w : U) (S : Sto) : SM := match refOf u with
    | none => none
    | some r => match asI k with
      | none => none
      | some k => match S[r]? with
        | none => none
        | some us => match ixN us.length k with
          | none => none
          | some j => nxS ρ (S.set r (us.set j w))
def augM (i : Nat) (m : En → Sto → UM U) : En → Sto → SM := fun ρ S => match slotU ρ[i]? with
    | some (.int k) => bindE (m ρ S) fun w S => (match asI w with
      | some z => nxS (ρ.set i (.v (.int (k + z)))) S
      | none => none)
    | _ => none
mutual
def exS : CS → En → Sto → SM
  | .asg i e, ρ, S => bindE (evE fn wd e ρ S) fun u S => nxS (ρ.set i (.v u)) S
  | .own i l, ρ, S => bindE (evL fn wd l ρ S) fun us S => nxS (ρ.set i (.own us)) S
  | .alc i l, ρ, S => bindE (evL fn wd l ρ S) fun us S => nxS (ρ.set i (.v (.ref S.length))) (S ++ [us])
  | .parO i j a b, ρ, S => bindE (evP fn wd a ρ S) fun u S => bindE (evP fn wd b ρ S) fun w S => nxS ((ρ.set i (slotP u)).set j (slotP w)) S
  | .unp tg e, ρ, S => bindE (evE fn wd e ρ S) fun u S => optS (setTg tg u ρ) S
  | .frz i, ρ, S => frzU i ρ S
  | .sidx a i e, ρ, S => bindE (evE fn wd e ρ S) fun w S => bindE (evE fn wd a ρ S) fun u S => bindE (evE fn wd i ρ S) fun k S => sidxM ρ u k w S
  | .aug i e, ρ, S => augM i (evE fn wd e) ρ S
  | .app i e, ρ, S => appU i (evE fn wd e) ρ S
  | .ext i e, ρ, S => extU i (evE fn wd e) ρ S
  | .popU tg j, ρ, S => popM tg j ρ S
  | .ite c a b, ρ, S => bindE (evE fn wd c ρ S) fun u S => (match asB u with
    | some true => exB a ρ S
    | some false => exB b ρ S
    | none => none)
  | .whl c b, ρ, S => whlL (evE fn wd c) (exB b) 1000000 ρ S
  | .for_ tg it b, ρ, S => bindE (evI fn wd it ρ S) fun xs S => forL tg (exB b) xs ρ S
  | .ret e, ρ, S => bindE (evE fn wd e ρ S) fun u S => some (.ret u, S)
  | .retA l, ρ, S => bindE (evL fn wd l ρ S) fun us S => some (.ret (.ref S.length), S ++ [us])
  | .raise c, _, S => some (.err c, S)
  | .exp e, ρ, S => bindE (evE fn wd e ρ S) fun _ S => nxS ρ S
  | .brk, ρ, S => some (.brk ρ, S)
  | .cnt, ρ, S => some (.cnt ρ, S)
  | .pass, ρ, S => nxS ρ S
def exB : CB → En → Sto → SM
  | .nil, ρ, S => nxS ρ S
  | .cons s b, ρ, S => match exS s ρ S with
    | some (.nx ρ', S') => exB b ρ' S'
    | r => r
end
/-- a def: how many names, parameters first; its body -/
structure FDef where
  N : List Str
  ps : List Str
  body : CB
def runBody (d : FDef) (us : List U) (S : Sto) : UM U :=
  if us.length = d.ps.length then match exB fn wd d.body (us.map .v ++ List.replicate (d.N.length - us.length) .nil) S with
    | some (.ret u, S') => some (.ok u, S')
    | some (.nx _, S') => some (.ok .non, S')
    | some (.err c, S') => some (.err c, S')
    | _ => none
  else none
end
/-- a row of defs, calls to a depth -/
def run (P : List FDef) (wd : UM U → UM U) : Nat → Nat → List U → Sto → UM U
  | 0, _, _, _ => none
  | k + 1, f, us, S => match P[f]? with
    | some d => runBody (run P wd k) wd d us S
    | none => none
end Wy
end
section
set_option maxRecDepth 100000
set_option maxHeartbeats 2000000
namespace Wy
open PySem PySem.Spec PyProof.Rows L2
example (fn wd) (u : U) (ρ S) : evE fn wd (.k u) ρ S = pureO u S := rfl
section
variable {K : PySem.W.Frag} {T : List (Addr × Str)} {μ μ' : List Addr} {J J' H H' : Hp} {ρ : En} {S : Sto} {σ : L2.St}
theorem upd_sub {H : Hp} {p : Addr} {o : HO} (h : H p = none) : ∀ b u, H b = some u → upd H p o b = some u := fun b u e => by
  rw [upd_ne (ne_of_none e h)]; exact e
theorem upd_nt {J : Hp} {p : Addr} {o : HO} (h : ∀ b ps, J b ≠ some (.tbl ps)) (ho : ∀ ps, o ≠ .tbl ps) : ∀ b ps, upd J p o b ≠ some (.tbl ps) := fun b ps z => by
  by_cases q : b = p
  · subst q; rw [upd_same] at z; exact ho ps (Option.some.inj z)
  · rw [upd_ne q] at z; exact h b ps z
/-- a new thing that never changes -/
theorem Rel.lay {p : Addr} {o : HO} (r : Rel K T μ J ρ S σ H) (hp : H p = none) (ho : ∀ ps, o ≠ .tbl ps := by intro ps z; cases z) : Step μ J H μ (upd J p o) (upd H p o) ∧ Rel K T μ (upd J p o) ρ S σ (upd H p o) := by
  have hJ : J p = none := by
    cases e : J p with
    | none => rfl
    | some u => rw [r.jh _ _ e] at hp; cases hp
  have sJ : Sub J (upd J p o) := upd_sub hJ
  have pre : Pre μ μ := fun _ _ h => h
  have jne : ∀ b, ¬ Fr0 H b → upd J p o b = J b := fun b hb => upd_ne (fun e => by subst e; exact hb (Fr0.of hp))
  refine ⟨⟨⟨[], by simp, by simp⟩, sJ, jne, fun b u e _ _ => upd_sub hp b u e, fun b hb => ?_⟩, ?_⟩
  · by_cases e : b = p
    · subst e; exact Fr0.of hp
    · exact fun o eo => hb o (by rw [upd_ne e]; exact eo)
  · refine ⟨r.len, fun b u e => ?_, r.ml, r.mn, fun i us a e1 e2 => ?_, fun i s v e1 e2 => ?_, r.inj, tabs_ext r.tab (upd_sub hp), upd_nt r.jt ho⟩
    · by_cases q : b = p
      · subst q; rw [upd_same] at e ⊢; exact e
      · rw [upd_ne q] at e ⊢; exact r.jh _ _ e
    · obtain ⟨vs, h1, h2, h3⟩ := r.st i us a e1 e2
      exact ⟨vs, upd_sub hp _ _ h1, by rw [jne a (Fr0.no h1 (fun ps e => nomatch e))]; exact h2, h3.mono sJ pre⟩
    · have q := r.sl i s v e1 e2
      cases s with
      | nil => trivial
      | v u => obtain ⟨w, e, h⟩ := q; exact ⟨w, e, h.mono sJ pre⟩
      | own us =>
        obtain ⟨a, vs, e, h1, h2, h3, h4⟩ := q
        exact ⟨a, vs, e, upd_sub hp _ _ h1, by rw [jne a (Fr0.no h1 (fun ps e => nomatch e))]; exact h2, h3, h4.mono sJ pre⟩
/-- a new list, not yet anywhere -/
theorem Rel.tmp {p : Addr} {o : HO} (r : Rel K T μ J ρ S σ H) (hp : H p = none) : Step μ J H μ J (upd H p o) ∧ Rel K T μ J ρ S σ (upd H p o) ∧ J p = none ∧ p ∉ μ := by
  have hJ : J p = none := by
    cases e : J p with
    | none => rfl
    | some u => rw [r.jh _ _ e] at hp; cases hp
  have hm : p ∉ μ := fun hm => by
    obtain ⟨i, hi⟩ := List.getElem?_of_mem hm
    have : i < S.length := by rw [← r.ml]; exact (List.getElem?_eq_some_iff.mp hi).1
    obtain ⟨vs, h1, _⟩ := r.st i (S[i]) p (by simp [this]) hi
    rw [hp] at h1; cases h1
  refine ⟨⟨⟨[], by simp, by simp⟩, Sub.refl _, fun _ _ => rfl, fun b u e _ _ => upd_sub hp b u e, fun b hb => ?_⟩, ⟨r.len, fun b u e => upd_sub hp _ _ (r.jh _ _ e), r.ml, r.mn, fun i us a e1 e2 => ?_, fun i s v e1 e2 => ?_, r.inj, tabs_ext r.tab (upd_sub hp), r.jt⟩, hJ, hm⟩
  · by_cases e : b = p
    · subst e; exact Fr0.of hp
    · exact fun o eo => hb o (by rw [upd_ne e]; exact eo)
  · obtain ⟨vs, h1, h2, h3⟩ := r.st i us a e1 e2
    exact ⟨vs, upd_sub hp _ _ h1, h2, h3⟩
  · have q := r.sl i s v e1 e2
    cases s with
    | nil => trivial
    | v u => exact q
    | own us =>
      obtain ⟨a, vs, e, h1, h2, h3, h4⟩ := q
      exact ⟨a, vs, e, upd_sub hp _ _ h1, h2, h3, h4⟩
/-- a list that nothing else holds is left as it is from now on -/
theorem Rel.settle {p : Addr} {vs : List V} (r : Rel K T μ J ρ S σ H) (hp : H p = some (.lst vs)) (hJ : J p = none) (hm : p ∉ μ) (ho : ∀ (i : Nat) (us : List U), ρ[i]? = some (Slot.own us) → σ[i]? ≠ some (some (V.ref p))) :
    Rel K T μ (upd J p (.lst vs)) ρ S σ H := by
  have sJ : Sub J (upd J p (.lst vs)) := upd_sub hJ
  have pre : Pre μ μ := fun _ _ h => h
  refine ⟨r.len, fun b u e => ?_, r.ml, r.mn, fun i us a e1 e2 => ?_, fun i s v e1 e2 => ?_, r.inj, r.tab, upd_nt r.jt (fun ps z => by cases z)⟩
  · by_cases q : b = p
    · subst q; rw [upd_same] at e; rw [hp]; exact e
    · rw [upd_ne q] at e; exact r.jh _ _ e
  · obtain ⟨ws, h1, h2, h3⟩ := r.st i us a e1 e2
    have : a ≠ p := fun e => hm (e ▸ List.mem_of_getElem? e2)
    exact ⟨ws, h1, by rw [upd_ne this]; exact h2, h3.mono sJ pre⟩
  · have q := r.sl i s v e1 e2
    cases s with
    | nil => trivial
    | v u => obtain ⟨w, e, h⟩ := q; exact ⟨w, e, h.mono sJ pre⟩
    | own us =>
      obtain ⟨a, ws, e, h1, h2, h3, h4⟩ := q
      have : a ≠ p := fun z => ho i us e1 (by rw [e2, e, z])
      exact ⟨a, ws, e, h1, by rw [upd_ne this]; exact h2, h3, h4.mono sJ pre⟩
/-- tables may grow, all else is kept -/
theorem Rel.extN (r : Rel K T μ J ρ S σ H) (e : LamX.ExtN H H') (t : LamX.Tabs T H') : Step μ J H μ J H' ∧ Rel K T μ J ρ S σ H' := by
  refine ⟨⟨⟨[], by simp, by simp⟩, Sub.refl _, fun _ _ => rfl, fun b o h _ nt => e b o h nt, fun b f o h => ?_⟩, ⟨r.len, fun b o h => e b o (r.jh b o h) (fun ps z => r.jt b ps (by rw [h, z])), r.ml, r.mn, fun i us a e1 e2 => ?_, fun i s v e1 e2 => ?_, r.inj, t, r.jt⟩⟩
  · cases o with
    | tbl ps => exact ⟨ps, rfl⟩
    | _ => exact absurd (f _ (e b _ h (fun ps z => by cases z))) (fun ⟨ps, z⟩ => by cases z)
  · obtain ⟨vs, h1, h2, h3⟩ := r.st i us a e1 e2
    exact ⟨vs, e _ _ h1 (fun ps z => by cases z), h2, h3⟩
  · have q := r.sl i s v e1 e2
    cases s with
    | nil => trivial
    | v u => exact q
    | own us =>
      obtain ⟨a, vs, e0, h1, h2, h3, h4⟩ := q
      exact ⟨a, vs, e0, e _ _ h1 (fun ps z => by cases z), h2, h3, h4⟩
/-- the addresses of own lists are not those of fresh ones -/
theorem Rel.notOwn {p : Addr} (r : Rel K T μ J ρ S σ H) (hp : Fr0 H p) : ∀ (i : Nat) (us : List U), ρ[i]? = some (Slot.own us) → σ[i]? ≠ some (some (V.ref p)) := fun i us e1 e2 => by
  obtain ⟨a, vs, e, h1, _⟩ := r.sl i (.own us) _ e1 e2
  cases e
  exact Fr0.no h1 (fun ps e => nomatch e) hp
end

/-! ### what a reading says by the tongue -/
section
variable (K : PySem.W.Frag) (T : List (Addr × Str)) (ec : Str → Addr) (W : WX)
variable {α β : Type} (R : Hp → List Addr → Hp → Hp → α → β → Prop)
def Fin' (μ : List Addr) (J : Hp) (ρ : En) (σ : L2.St) (H : Hp) (r : UM α) (Q : β → Hp → Prop) : Prop := match r with
  | none => False
  | some (.err c, S') => ∀ μ' J' H', Step μ J H μ' J' H' → Rel K T μ' J' ρ S' σ H' → W (.ref (ec c)) none σ H'
  | some (.ok u, S') => ∀ v μ' J' H', Step μ J H μ' J' H' → Rel K T μ' J' ρ S' σ H' → R H μ' J' H' u v → Q v H'
def TX (m : En → Sto → UM α) : L2.St → Hp → (β → Hp → Prop) → Prop := fun σ H Q =>
  ∃ ρ S μ J, Rel K T μ J ρ S σ H ∧ Fin' K T ec W R μ J ρ σ H (m ρ S) Q
/-- a relation that a longer way does not hurt -/
def Stab : Prop := ∀ μ J H μ1 J1 H1 μ' J' H' (u : α) (v : β), Step μ J H μ1 J1 H1 → R H1 μ' J' H' u v → R H μ' J' H' u v
end
abbrev RV (K : PySem.W.Frag) : Hp → List Addr → Hp → Hp → U → V → Prop := fun _ μ J _ u v => RU K μ J u v
abbrev RA (K : PySem.W.Frag) : Hp → List Addr → Hp → Hp → List U → List V → Prop := fun _ μ J _ us vs => RUs K μ J us vs
abbrev RB : Hp → List Addr → Hp → Hp → U → Bool → Prop := fun _ _ _ _ u b => u = .bl b
abbrev RBB : Hp → List Addr → Hp → Hp → Bool → Bool → Prop := fun _ _ _ _ u b => u = b
abbrev RO : Hp → List Addr → Hp → Hp → Option Int → Option Int → Prop := fun _ _ _ _ u b => u = b
abbrev RF (K : PySem.W.Frag) : Hp → List Addr → Hp → Hp → List U → V → Prop := fun H μ J H' us v => ∃ p vs, v = .ref p ∧ Fr0 H p ∧ H' p = some (.lst vs) ∧ J p = none ∧ p ∉ μ ∧ RUs K μ J us vs
theorem stab_v {K : PySem.W.Frag} : Stab (RV K) := fun _ _ _ _ _ _ _ _ _ _ _ _ h => h
theorem stab_a {K : PySem.W.Frag} : Stab (RA K) := fun _ _ _ _ _ _ _ _ _ _ _ _ h => h
theorem stab_b : Stab RB := fun _ _ _ _ _ _ _ _ _ _ _ _ h => h
theorem stab_bb : Stab RBB := fun _ _ _ _ _ _ _ _ _ _ _ _ h => h
theorem stab_o : Stab RO := fun _ _ _ _ _ _ _ _ _ _ _ _ h => h
theorem stab_f {K : PySem.W.Frag} : Stab (RF K) := fun μ J H μ1 J1 H1 μ' J' H' u v st ⟨p, vs, e, h, r⟩ => ⟨p, vs, e, st.th p h, r⟩
section
variable {K : PySem.W.Frag} {T : List (Addr × Str)} {ec : Str → Addr} {W : WX}
variable {α β γ δ : Type} {R : Hp → List Addr → Hp → Hp → α → β → Prop} {R2 : Hp → List Addr → Hp → Hp → γ → δ → Prop}
variable {μ μ1 : List Addr} {J J1 H H1 : Hp} {ρ : En} {S : Sto} {σ : L2.St}
theorem fin_later (sb : Stab R) (st : Step μ J H μ1 J1 H1) {r : UM α} {Q : β → Hp → Prop} (h : Fin' K T ec W R μ J ρ σ H r Q) : Fin' K T ec W R μ1 J1 ρ σ H1 r Q := by
  match r, h with
  | none, h => exact h
  | some (.err c, S'), h => exact fun μ' J' H' s q => h μ' J' H' (st.trans s) q
  | some (.ok u, S'), h => exact fun v μ' J' H' s q x => h v μ' J' H' (st.trans s) q (sb _ _ _ _ _ _ _ _ _ _ _ st x)
theorem tx_bind (sb : Stab R2) (rel : Rel K T μ J ρ S σ H) {ma : En → Sto → UM α} {f : α → Sto → UM γ} {Q : δ → Hp → Prop} (h : Fin' K T ec W R2 μ J ρ σ H (bindO (ma ρ S) f) Q) :
    TX K T ec W R ma σ H (fun v H1 => ∃ u S1 μ1 J1, Step μ J H μ1 J1 H1 ∧ Rel K T μ1 J1 ρ S1 σ H1 ∧ R H μ1 J1 H1 u v ∧ Fin' K T ec W R2 μ1 J1 ρ σ H1 (f u S1) Q) := by
  refine ⟨ρ, S, μ, J, rel, ?_⟩
  match e : ma ρ S, h with
  | none, h => exact h
  | some (.err c, S'), h => exact h
  | some (.ok u, S'), h => exact fun v μ' J' H' st q x => ⟨u, S', μ', J', st, q, x, fin_later sb st h⟩
theorem tx_mono {ma : En → Sto → UM α} {Q Q' : β → Hp → Prop} (h : TX K T ec W R ma σ H Q) (m : ∀ v H', Q v H' → Q' v H') : TX K T ec W R ma σ H Q' := by
  obtain ⟨ρ, S, μ, J, rel, h⟩ := h
  refine ⟨ρ, S, μ, J, rel, ?_⟩
  match e : ma ρ S, h with
  | none, h => exact h
  | some (.err c, S'), h => exact h
  | some (.ok u, S'), h => exact fun v μ' J' H' st q x => m _ _ (h v μ' J' H' st q x)
theorem fin_pure (rel : Rel K T μ J ρ S σ H) {u : α} {v : β} {Q : β → Hp → Prop} (h : Fin' K T ec W R μ J ρ σ H (pureO u S) Q) (r : R H μ J H u v) : Q v H :=
  h v μ J H (Step.refl _ _ _) rel r
theorem fin_opt (rel : Rel K T μ J ρ S σ H) {o : Option α} {Q : β → Hp → Prop} (h : Fin' K T ec W R μ J ρ σ H (optO o S) Q) : ∃ u, o = some u ∧ Fin' K T ec W R μ J ρ σ H (pureO u S) Q := by
  cases o with
  | none => exact h.elim
  | some u => exact ⟨u, rfl, h⟩
theorem fin_step {S1 : Sto} (st : Step μ J H μ1 J1 H1) (rel : Rel K T μ1 J1 ρ S1 σ H1) {u : α} {v : β} {Q : β → Hp → Prop} (h : Fin' K T ec W R μ J ρ σ H (pureO u S1) Q) (r : R H μ1 J1 H1 u v) : Q v H1 :=
  h v μ1 J1 H1 st rel r
end
theorem pe_imp {X : Cx} {e : Expr} {t t' : TE} (h : PE X e t') (i : ∀ σ H Q, t σ H Q → t' σ H Q) : PE X e t := ⟨fun pins s σ H Q I w => h.run pins s σ H Q I (i σ H Q w)⟩
theorem pt_imp {X : Cx} {e : Expr} {t t' : TT} (h : PT X e t') (i : ∀ σ H Q, t σ H Q → t' σ H Q) : PT X e t := ⟨fun pins s σ H Q I w => h.run pins s σ H Q I (i σ H Q w)⟩
theorem pw_imp {X : Cx} {e : Expr} {t t' : TT} (h : PW X e t') (i : ∀ σ H Q, t σ H Q → t' σ H Q) : PW X e t := ⟨fun wh pins s σ H Q I w => h.run wh pins s σ H Q I (i σ H Q w)⟩
theorem pa_imp {X : Cx} {e : List Expr} {t t' : TA} (h : PA X e t') (i : ∀ σ H Q, t σ H Q → t' σ H Q) : PA X e t := ⟨fun pos pins s σ H Q I w => h.run pos pins s σ H Q I (i σ H Q w)⟩
theorem ps_imp {X : Cx} {e : Stmt} {t t' : TS} (h : PS X e t') (i : ∀ D σ H, t D σ H → t' D σ H) : PS X e t := ⟨fun pins s σ H D I w => h.run pins s σ H D I (i D σ H w)⟩
theorem pss_imp {X : Cx} {e : List Stmt} {t t' : TS} (h : PSs X e t') (i : ∀ D σ H, t D σ H → t' D σ H) : PSs X e t := ⟨fun pins s σ H D I w => h.run pins s σ H D I (i D σ H w)⟩
theorem pi_imp {X : Cx} {tg e : Expr} {t t' : TI} (h : PI X tg e t') (i : ∀ σ H Q, t σ H Q → t' σ H Q) : PI X tg e t := ⟨fun pins s σ H Q I w => h.run pins s σ H Q I (i σ H Q w)⟩
theorem pg_imp {X : Cx} {tg : Expr} {t t' : TG} (h : PG X tg t') (i : ∀ v σ H Q, t v σ H Q → t' v σ H Q) : PG X tg t := ⟨fun pins s σ H v u Q I r w => h.run pins s σ H v u Q I r (i v σ H Q w)⟩
theorem po_imp {X : Cx} {e : Option Expr} {t t' : TO} (h : PO X e t') (i : ∀ σ H Q, t σ H Q → t' σ H Q) : PO X e t := ⟨fun pins s σ H Q I w => h.run pins s σ H Q I (i σ H Q w)⟩
theorem pe_alt {X : Cx} {e : Expr} {t t' : TE} (h : PE X e t) (h' : PE X e t') : PE X e (fun σ H Q => t σ H Q ∨ t' σ H Q) := ⟨fun pins s σ H Q I w => w.elim (h.run pins s σ H Q I) (h'.run pins s σ H Q I)⟩
theorem pi_alt {X : Cx} {tg e : Expr} {t t' : TI} (h : PI X tg e t) (h' : PI X tg e t') : PI X tg e (fun σ H Q => t σ H Q ∨ t' σ H Q) := ⟨fun pins s σ H Q I w => w.elim (h.run pins s σ H Q I) (h'.run pins s σ H Q I)⟩
end Wy
end
section
set_option maxRecDepth 100000
set_option maxHeartbeats 2000000
namespace Wy
open PySem PySem.Spec PyProof.Rows L2
theorem line_le : line ≤ sizeLine := by rw [sizeLine_eq]; decide
section
variable {X : Cx} {T : List (Addr × Str)} {ec : Str → Addr} {W : WX}
variable {μ μ1 : List Addr} {J J1 H H1 : Hp} {ρ : En} {S : Sto} {σ : L2.St}
/-- what a test says -/
def tEq (b : Bool) (x : V) (_ : Hp) : Prop := x = .bl b
/-! ### names, constants -/
theorem Rel.at {K : PySem.W.Frag} (rel : Rel K T μ J ρ S σ H) {i : Nat} {s : Slot} (e : ρ[i]? = some s) : ∃ o, σ[i]? = some o ∧ RSl K μ J H s o := by
  have hi : i < ρ.length := (List.getElem?_eq_some_iff.mp e).1
  have hj : i < σ.length := by rw [← rel.len]; exact hi
  exact ⟨σ[i], by simp [hj], rel.sl i s _ e (by simp [hj])⟩
theorem slotU_some {o : Option Slot} {u : U} (h : slotU o = some u) : o = some (.v u) := by
  unfold slotU at h
  split at h
  · cases h; rfl
  · cases h
theorem r_var {i : Nat} {x : Str} {pos : Pos} (hN : X.N[i]? = some x) (hv : Vis X.env.scope x) (hd : (x == ("__debug__" : Str)) = false) (hcd : (x == ("__classdict__" : Str)) = false) :
    PE X (.Name x pos) (TX X.K T ec W (RV X.K) fun ρ S => optO (slotU ρ[i]?) S) :=
  pe_imp (pe_var (i := i) hN hv hd hcd) fun σ H Q ⟨ρ, S, μ, J, rel, h⟩ => by
    obtain ⟨u, e, h⟩ := fin_opt rel h
    obtain ⟨o, e1, v, e2, r⟩ := rel.at (slotU_some e)
    exact ⟨v, by rw [e1, e2], fin_pure rel h r⟩
theorem r_int {i j pos} : PE X (.Constant (.int i) j pos) (TX X.K T ec W (RV X.K) fun ρ S => pureO (.int i) S) :=
  pe_imp pe_int fun σ H Q ⟨ρ, S, μ, J, rel, h⟩ => fin_pure rel h (.int i)
theorem r_bl {i j pos} : PE X (.Constant (.bool i) j pos) (TX X.K T ec W (RV X.K) fun ρ S => pureO (.bl i) S) :=
  pe_imp pe_bl fun σ H Q ⟨ρ, S, μ, J, rel, h⟩ => fin_pure rel h (.bl i)
theorem r_non {j pos} : PE X (.Constant .none j pos) (TX X.K T ec W (RV X.K) fun ρ S => pureO .non S) :=
  pe_imp pe_non fun σ H Q ⟨ρ, S, μ, J, rel, h⟩ => fin_pure rel h .non
theorem r_str {i j pos} : PE X (.Constant (.str i) j pos) (TX X.K T ec W (RV X.K) fun ρ S => pureO (.str i) S) :=
  pe_imp pe_str fun σ H Q ⟨ρ, S, μ, J, rel, h⟩ => fin_pure rel h (.str i)
/-- what a module's name stands for, said as a tree -/
def GloOk (K : PySem.W.Frag) (mg : Str → Option Value) (x : Str) (u : U) : Prop := ∃ (z : Value) (v : V), mg x = some z ∧ RelV v z ∧ ∀ μ J, RU K μ J u v
theorem r_glo {x : Str} {u : U} {pos : Pos} (hg : Gl X x) (h : GloOk X.K X.mg x u) (hd : (x == ("__debug__" : Str)) = false) : PE X (.Name x pos) (TX X.K T ec W (RV X.K) fun ρ S => pureO u S) := by
  obtain ⟨z, v, e, r, ru⟩ := h
  exact pe_imp (pe_glob hg e r hd) fun σ H Q ⟨ρ, S, μ, J, rel, h⟩ => fin_pure rel h (ru μ J)
/-! ### rows -/
theorem r_nil : PA X [] (TX X.K T ec W (RA X.K) fun ρ S => pureO [] S) :=
  pa_imp pa_nil fun σ H Q ⟨ρ, S, μ, J, rel, h⟩ => fin_pure rel h .nil
theorem r_cons {e : Expr} {es : List Expr} {m : En → Sto → UM U} {ms : En → Sto → UM (List U)} (hs : starEach (e :: es) X.env = (false, eval e X.env) :: starEach es X.env)
    (ha : PE X e (TX X.K T ec W (RV X.K) m)) (hr : PA X es (TX X.K T ec W (RA X.K) ms)) :
    PA X (e :: es) (TX X.K T ec W (RA X.K) fun ρ S => bindO (m ρ S) fun u S => bindO (ms ρ S) fun us S => pureO (u :: us) S) :=
  pa_imp (pa_cons ha hr hs) fun σ H Q ⟨ρ, S, μ, J, rel, h⟩ => by
    refine tx_mono (tx_bind stab_a rel h) fun v H1 ⟨u, S1, μ1, J1, st, rel1, ru, h1⟩ => ?_
    refine tx_mono (tx_bind stab_a rel1 h1) fun vs H2 ⟨us, S2, μ2, J2, st2, rel2, rus, h2⟩ => ?_
    exact fin_pure rel2 h2 (.cons (st2.ru ru) rus)
theorem fin_line {α β : Type} {R : Hp → List Addr → Hp → Hp → α → β → Prop} {n : Nat} {u : α} {Q : β → Hp → Prop} (h : Fin' X.K T ec W R μ J ρ σ H (if n ≤ line then pureO u S else none) Q) : n ≤ line ∧ Fin' X.K T ec W R μ J ρ σ H (pureO u S) Q := by
  by_cases c : n ≤ line
  · rw [if_pos c] at h; exact ⟨c, h⟩
  · rw [if_neg c] at h; exact h.elim
theorem r_tup {es : List Expr} {ms : En → Sto → UM (List U)} {x1 : Nat} {pos : Pos} (h : PA X es (TX X.K T ec W (RA X.K) ms)) :
    PE X (.Tuple es x1 pos) (TX X.K T ec W (RV X.K) fun ρ S => bindO (ms ρ S) fun us S => if us.length ≤ line then pureO (.tup us) S else none) :=
  pe_imp (pe_tup h) fun σ H Q ⟨ρ, S, μ, J, rel, h⟩ => by
    refine tx_mono (tx_bind stab_v rel h) fun vs H1 ⟨us, S1, μ1, J1, st, rel1, ru, h1⟩ => ?_
    obtain ⟨hl, h1⟩ := fin_line h1
    refine ⟨by rw [← ru.length]; exact Nat.le_trans hl line_le, fun p hp => ?_⟩
    obtain ⟨st2, rel2⟩ := rel1.lay (o := .tup vs) hp
    exact fin_step st2 rel2 h1 (.tup (SqT.of upd_same) (st2.rus ru))
theorem r_disp {es : List Expr} {ms : En → Sto → UM (List U)} {pos : Pos} (h : PA X es (TX X.K T ec W (RA X.K) ms)) :
    PE X (.List es pos) (TX X.K T ec W (RF X.K) fun ρ S => bindO (ms ρ S) fun us S => if us.length ≤ line then pureO us S else none) :=
  pe_imp (pe_lst h) fun σ H Q ⟨ρ, S, μ, J, rel, h⟩ => by
    refine tx_mono (tx_bind stab_f rel h) fun vs H1 ⟨us, S1, μ1, J1, st, rel1, ru, h1⟩ => ?_
    obtain ⟨hl, h1⟩ := fin_line h1
    refine ⟨by rw [← ru.length]; exact Nat.le_trans hl line_le, fun p hp => ?_⟩
    obtain ⟨st2, rel2, hJ, hm⟩ := rel1.tmp (o := .lst vs) hp
    exact fin_step st2 rel2 h1 ⟨p, vs, rfl, Fr0.of hp, upd_same, hJ, hm, ru⟩
/-- a new list as a value -/
theorem ofL_read {m : En → Sto → UM (List U)} (σ : L2.St) (H : Hp) (Q : VK) (h : TX X.K T ec W (RV X.K) (fun ρ S => bindO (m ρ S) fun us S => pureO (.lst us) S) σ H Q) : TX X.K T ec W (RF X.K) m σ H Q := by
    obtain ⟨ρ, S, μ, J, rel, h⟩ := h
    refine ⟨ρ, S, μ, J, rel, ?_⟩
    have h' : Fin' X.K T ec W (RV X.K) μ J ρ σ H (bindO (m ρ S) fun us S => pureO (.lst us) S) Q := h
    clear h
    match e : m ρ S, h' with
    | none, h => exact h
    | some (.err c, S'), h => exact h
    | some (.ok us, S'), h =>
      rintro v μ' J' H' st rel' ⟨p, vs, rfl, hp, hp', hJ, hm, ru⟩
      have rel2 := rel'.settle hp' hJ hm (fun i us e1 e2 => rel.notOwn hp i us (by
        have := rel.len; have h3 := rel'.len
        exact e1) (by exact e2))
      have sJ : Sub J' (upd J' p (.lst vs)) := upd_sub hJ
      have st2 : Step μ J H μ' (upd J' p (.lst vs)) H' := ⟨st.pre, st.jj.trans sJ, fun b hb => by
        rw [upd_ne (fun e => by subst e; exact hb hp)]; exact st.jn b hb, st.fr, st.th⟩
      exact h (.ref p) μ' (upd J' p (.lst vs)) H' st2 rel2 (.lst upd_same (ru.mono sJ fun _ _ h => h))
theorem r_ofL {e : Expr} {m : En → Sto → UM (List U)} (h : PE X e (TX X.K T ec W (RF X.K) m)) : PE X e (TX X.K T ec W (RV X.K) fun ρ S => bindO (m ρ S) fun us S => pureO (.lst us) S) := pe_imp h ofL_read
theorem r_emp {pos : Pos} : PE X (.Dict [] [] pos) (TX X.K T ec W (RV X.K) fun ρ S => pureO .emp S) :=
  pe_imp pe_dnewK fun σ H Q ⟨ρ, S, μ, J, rel, h⟩ => by
    intro p hp
    obtain ⟨st2, rel2⟩ := rel.lay (o := .dK []) hp
    exact fin_step st2 rel2 h (.emp upd_same)
end
end Wy
end
section
set_option maxRecDepth 100000
set_option maxHeartbeats 2000000
namespace Wy
open PySem PySem.Spec PyProof.Rows L2
section
variable {X : Cx} {T : List (Addr × Str)} {ec : Str → Addr} {W : WX}
variable {μ μ1 : List Addr} {J J1 H H1 : Hp} {ρ : En} {S : Sto} {σ : L2.St}
/-- a rule of two values -/
def Bin2 (X : Cx) (T : List (Addr × Str)) (f : Value → Value → Sem Value) (g : U → U → Option U) : Prop :=
  ∃ r : R2, OpR X f r ∧ ∀ {ec : Str → Addr} {W : WX} {μ : List Addr} {J H : Hp} {ρ : En} {S : Sto} {σ : L2.St} {u w z : U} {x y : V} {Q : VK},
    Rel X.K T μ J ρ S σ H → RU X.K μ J u x → RU X.K μ J w y → g u w = some z → Fin' X.K T ec W (RV X.K) μ J ρ σ H (pureO z S) Q → r x y H Q
theorem Bin2.none {f : Value → Value → Sem Value} : Bin2 X T f (fun _ _ => none) := ⟨fun _ _ _ _ => False, fun _ _ _ _ _ _ _ _ _ _ _ _ h => h.elim, fun _ _ _ h _ => nomatch h⟩
/-- two rules of one operation, by the values' kinds -/
theorem Bin2.or {f : Value → Value → Sem Value} {g g1 g2 : U → U → Option U} (h1 : Bin2 X T f g1) (h2 : Bin2 X T f g2) (c : ∀ u w z, g u w = some z → g1 u w = some z ∨ g2 u w = some z) : Bin2 X T f g := by
  obtain ⟨r1, o1, k1⟩ := h1
  obtain ⟨r2, o2, k2⟩ := h2
  refine ⟨fun x y H Q => r1 x y H Q ∨ r2 x y H Q, o1.or o2, fun rel ru rw e h => ?_⟩
  rcases c _ _ _ e with e | e
  · exact .inl (k1 rel ru rw e h)
  · exact .inr (k2 rel ru rw e h)
/-! ### numbers -/
def gI (C : Int → Int → Bool) (f : Int → Int → Int) : U → U → Option U
  | .int i, .int j => if C i j = true then some (.int (f i j)) else none
  | _, _ => none
def gIB (f : Int → Int → Bool) : U → U → Option U
  | .int i, .int j => some (.bl (f i j))
  | _, _ => none
theorem ru_int {i : Int} {x : V} (r : RU X.K μ J (.int i) x) : x = .int i := by cases r; rfl
theorem ru_str {i : Str} {x : V} (r : RU X.K μ J (.str i) x) : x = .str i := by cases r; rfl
theorem ru_bl {i : Bool} {x : V} (r : RU X.K μ J (.bl i) x) : x = .bl i := by cases r; rfl
theorem bin_I {f : Value → Value → Sem Value} {C : Int → Int → Prop} {C' : Int → Int → Bool} {g : Int → Int → Int} (h : OpR X f (rI C fun i j => .int (g i j))) (hc : ∀ i j, C' i j = true → C i j) : Bin2 X T f (gI C' g) :=
  ⟨_, h, fun {ec W μ J H ρ S σ u w z x y Q} rel ru rw e hf => by
    cases u <;> cases w <;> try (simp [gI] at e; done)
    rename_i i j
    simp only [gI, Option.ite_none_right_eq_some, Option.some.injEq] at e
    · obtain ⟨c, e⟩ := e
      subst e
      rw [ru_int ru, ru_int rw]
      exact ⟨i, j, rfl, rfl, hc _ _ c, fin_pure rel hf (.int _)⟩⟩
theorem bin_I0 {f : Value → Value → Sem Value} {g : Int → Int → Int} (h : OpR X f (rI0 fun i j => .int (g i j))) : Bin2 X T f (gI (fun _ _ => true) g) :=
  ⟨_, h, fun {ec W μ J H ρ S σ u w z x y Q} rel ru rw e hf => by
    cases u <;> cases w <;> try (simp [gI] at e; done)
    rename_i i j
    simp only [gI, if_true] at e
    cases e
    rw [ru_int ru, ru_int rw]
    exact ⟨i, j, rfl, rfl, fin_pure rel hf (.int _)⟩⟩
theorem bin_IB {f : Value → Value → Sem Value} {g : Int → Int → Bool} (h : OpR X f (rI0 fun i j => .bl (g i j))) : Bin2 X T f (gIB g) :=
  ⟨_, h, fun {ec W μ J H ρ S σ u w z x y Q} rel ru rw e hf => by
    cases u <;> cases w <;> try (simp [gIB] at e; done)
    rename_i i j
    simp only [gIB] at e
    cases e
    rw [ru_int ru, ru_int rw]
    exact ⟨i, j, rfl, rfl, fin_pure rel hf (.bl _)⟩⟩
/-! ### + of texts, tuples, lists -/
def gAddS : U → U → Option U
  | .str a, .str b => if a.length + b.length ≤ line then some (.str (a ++ b)) else none
  | _, _ => none
def gAddT : U → U → Option U
  | .tup a, .tup b => if a.length + b.length ≤ line then some (.tup (a ++ b)) else none
  | _, _ => none
def gAddL : U → U → Option U
  | .lst a, .lst b => if a.length + b.length ≤ line then some (.lst (a ++ b)) else none
  | _, _ => none
theorem bin_addS : Bin2 X T (binaryOp .Add) gAddS :=
  ⟨_, op_add_str, fun {ec W μ J H ρ S σ u w z x y Q} rel ru rw e hf => by
    cases u <;> cases w <;> try (simp [gAddS] at e; done)
    rename_i i j
    simp only [gAddS, Option.ite_none_right_eq_some, Option.some.injEq] at e
    · obtain ⟨c, e⟩ := e
      subst e
      rw [ru_str ru, ru_str rw]
      exact ⟨i, j, rfl, rfl, Nat.le_trans c line_le, fin_pure rel hf (.str _)⟩⟩
theorem bin_addT : Bin2 X T (binaryOp .Add) gAddT :=
  ⟨_, op_catA, fun {ec W μ J H ρ S σ u w z x y Q} rel ru rw e hf => by
    cases u <;> cases w <;> try (simp [gAddT] at e; done)
    rename_i a b
    simp only [gAddT, Option.ite_none_right_eq_some, Option.some.injEq] at e
    · obtain ⟨c, e⟩ := e
      subst e
      cases ru with
      | tup ha ra =>
        cases rw with
        | tup hb rb =>
          refine ⟨_, _, _, _, rfl, rfl, rel.jh.sqT ha, rel.jh.sqT hb, ?_, fun hx => ?_, fun hx hy => ?_, fun hx hy p hp => ?_⟩
          · rw [← ra.length, ← rb.length]; exact Nat.le_trans c line_le
          · have e1 := ra.nil_iff.mpr hx
            subst e1
            exact fin_pure rel hf (.tup hb rb)
          · have e1 := rb.nil_iff.mpr hy
            subst e1
            exact fin_pure rel hf (by rw [List.append_nil]; exact .tup ha ra)
          · obtain ⟨st2, rel2⟩ := rel.lay (o := .tup _) hp
            exact fin_step st2 rel2 hf (.tup (SqT.of upd_same) (st2.rus (ra.append rb)))⟩
theorem bin_addL : Bin2 X T (binaryOp .Add) gAddL :=
  ⟨_, op_cat, fun {ec W μ J H ρ S σ u w z x y Q} rel ru rw e hf => by
    cases u <;> cases w <;> try (simp [gAddL] at e; done)
    rename_i a b
    simp only [gAddL, Option.ite_none_right_eq_some, Option.some.injEq] at e
    · obtain ⟨c, e⟩ := e
      subst e
      cases ru with
      | lst ha ra =>
        cases rw with
        | lst hb rb =>
          refine ⟨_, _, _, _, rfl, rfl, rel.jh _ _ ha, rel.jh _ _ hb, ?_, fun p hp => ?_⟩
          · rw [← ra.length, ← rb.length]; exact Nat.le_trans c line_le
          · obtain ⟨st2, rel2⟩ := rel.lay (o := .lst _) hp
            exact fin_step st2 rel2 hf (.lst upd_same (st2.rus (ra.append rb)))⟩
def bopOf : Bop → Operator
  | .add => .Add | .sub => .Sub | .mul => .Mult | .fdiv => .FloorDiv | .mod => .Mod | .pow => .Pow
theorem bin_all (o : Bop) : Bin2 X T (binaryOp (bopOf o)) (uBin o) := by
  cases o with
  | add =>
    refine ((bin_I0 op_add).or (bin_addS.or (bin_addT.or bin_addL (g := fun u w => (gAddT u w).or (gAddL u w)) ?_) (g := fun u w => (gAddS u w).or ((gAddT u w).or (gAddL u w))) ?_)) ?_
    · intro u w z e
      cases h : gAddT u w with
      | some v => rw [h] at e; exact .inl e
      | none => rw [h] at e; exact .inr e
    · intro u w z e
      cases h : gAddS u w with
      | some v => rw [h] at e; exact .inl e
      | none => rw [h] at e; exact .inr e
    · intro u w z e
      cases u <;> cases w <;> first | exact .inl e | (refine .inr ?_; simp only [gAddS, gAddT, gAddL]; simp only [uBin, uAdd] at e; first | (cases e; done) | (split at e <;> simp_all))
  | sub => exact (bin_I0 op_sub).or Bin2.none fun u w z e => by cases u <;> cases w <;> first | exact .inl e | cases e
  | mul => 
    refine (bin_I (C' := mulOk) op_mul fun i j h => ?_).or Bin2.none fun u w z e => by cases u <;> cases w <;> first | exact .inl e | cases e
    simpa [mulOk, CMul] using h
  | fdiv =>
    refine (bin_I (C' := fun i j => decide (0 < j ∧ j < 1073741824)) op_fdiv fun i j h => (show 0 < j ∧ j < 1073741824 from of_decide_eq_true h)).or Bin2.none fun u w z e => ?_
    cases u <;> cases w <;> first | (left; simpa [uBin, gI] using e) | (simp [uBin] at e; done)
  | mod =>
    refine (bin_I (C' := fun i j => decide (0 < j)) op_mod fun i j h => of_decide_eq_true h).or Bin2.none fun u w z e => ?_
    cases u <;> cases w <;> first | (left; simpa [uBin, gI] using e) | (simp [uBin] at e; done)
  | pow =>
    refine (bin_I (C' := fun i j => decide (0 ≤ j ∧ j ≤ 1000 ∧ i.natAbs < 1000)) op_pow fun i j h => ?_).or Bin2.none fun u w z e => ?_
    · have h := of_decide_eq_true h
      exact ⟨h.1, by omega, Nat.lt_trans h.2.2 (by decide)⟩
    · cases u <;> cases w <;> first | (left; simpa [uBin, gI] using e) | (simp [uBin] at e; done)
theorem r_bin {a b : Expr} {ma mb : En → Sto → UM U} {o : Bop} {pos : Pos} (ha : PE X a (TX X.K T ec W (RV X.K) ma)) (hb : PE X b (TX X.K T ec W (RV X.K) mb)) :
    PE X (.BinOp a (bopOf o) b pos) (TX X.K T ec W (RV X.K) fun ρ S => bindO (ma ρ S) fun u S => bindO (mb ρ S) fun w S => optO (uBin o u w) S) := by
  obtain ⟨r, hr, k⟩ := bin_all (X := X) (T := T) o
  refine pe_imp (pe_op hr ha hb) fun σ H Q ⟨ρ, S, μ, J, rel, h⟩ => ?_
  refine tx_mono (tx_bind stab_v rel h) fun x H1 ⟨u, S1, μ1, J1, st, rel1, ru, h1⟩ => ?_
  refine tx_mono (tx_bind stab_v rel1 h1) fun y H2 ⟨w, S2, μ2, J2, st2, rel2, rw, h2⟩ => ?_
  obtain ⟨z, e, h2⟩ := fin_opt rel2 h2
  exact k rel2 (st2.ru ru) rw e h2
theorem r_neg {a : Expr} {ma : En → Sto → UM U} {pos : Pos} (ha : PE X a (TX X.K T ec W (RV X.K) ma)) :
    PE X (.UnaryOp .USub a pos) (TX X.K T ec W (RV X.K) fun ρ S => bindO (ma ρ S) fun u S => optO ((asI u).map fun i => .int (-i)) S) := by
  refine pe_imp (pe_un un_neg ha) fun σ H Q ⟨ρ, S, μ, J, rel, h⟩ => ?_
  refine tx_mono (tx_bind stab_v rel h) fun x H1 ⟨u, S1, μ1, J1, st, rel1, ru, h1⟩ => ?_
  obtain ⟨z, e, h1⟩ := fin_opt rel1 h1
  cases u <;> simp [asI] at e
  rename_i i
  subst e
  exact ⟨i, ru_int ru, fin_pure rel1 h1 (.int _)⟩
end
end Wy
end
section
set_option maxRecDepth 100000
set_option maxHeartbeats 2000000
namespace Wy
open PySem PySem.Spec PyProof.Rows L2
section
variable {K : PySem.W.Frag} {μ : List Addr} {J H : Hp}
mutual
theorem ru_dp (s : Sub J H) : ∀ {u : U} {v : V} {d : PyData}, RU K μ J u v → toPy u = some d → Dp K H v d
  | _, _, _, .non, e => by simp only [toPy, Option.some.injEq] at e; subst e; exact .non
  | _, _, _, .bl b, e => by simp only [toPy, Option.some.injEq] at e; subst e; exact .bl b
  | _, _, _, .int i, e => by simp only [toPy, Option.some.injEq] at e; subst e; exact .int i
  | _, _, _, .str x, e => by simp only [toPy, Option.some.injEq] at e; subst e; exact .str x
  | _, _, _, .tup h r, e => by
    simp only [toPy, Option.map_eq_some_iff] at e
    obtain ⟨ds, e, rfl⟩ := e
    exact .tup (s.sqT h) (rus_dp s r e)
  | _, _, _, .lst h r, e => by
    simp only [toPy, Option.map_eq_some_iff] at e
    obtain ⟨ds, e, rfl⟩ := e
    exact .lst (SqL.of (s _ _ h)) (rus_dp s r e)
  | _, _, _, .fz h r, e => by
    simp only [toPy, Option.map_eq_some_iff] at e
    obtain ⟨ds, e, rfl⟩ := e
    exact .lst (s.sqL h) (rus_dp s r e)
  | _, _, _, .emp h, e => by simp [toPy] at e
  | _, _, _, .ref h, e => by simp [toPy] at e
theorem rus_dp (s : Sub J H) : ∀ {us : List U} {vs : List V} {ds : List PyData}, RUs K μ J us vs → toPys us = some ds → DpAll K H vs ds
  | _, _, _, .nil, e => by simp only [toPys, Option.some.injEq] at e; subst e; exact .nil
  | _, _, _, .cons (u := u) (us := us) h r, e => by
    simp only [toPys] at e
    match h1 : toPy u, e with
    | none, e => cases e
    | some d, e =>
      simp only at e
      match h2 : toPys us, e with
      | none, e => cases e
      | some ds, e =>
        simp only [Option.some.injEq] at e
        subst e
        exact .cons (ru_dp s h h1) (rus_dp s r h2)
end
theorem uEq_some {a b : U} {k : Bool} (h : uEq a b = some k) : ∃ d e, toPy a = some d ∧ toPy b = some e ∧ SeqAt.shaped d = true ∧ SeqAt.shaped e = true ∧ k = PyData.eqv d e := by
  unfold uEq at h
  match h1 : toPy a, h2 : toPy b, h with
  | none, _, h => cases h
  | some d, none, h => cases h
  | some d, some e, h =>
    simp only [Option.ite_none_right_eq_some, Option.some.injEq] at h
    exact ⟨d, e, rfl, rfl, h.1.1, h.1.2, h.2.symm⟩
theorem ru_flat {u : U} {v : V} (r : RU K μ J u v) (f : flatU u = true) : flatV v = true := by
  cases r <;> first | rfl | (simp [flatU] at f; done)
theorem rus_flat : ∀ {us : List U} {vs : List V}, RUs K μ J us vs → us.all flatU = true → vs.all flatV = true
  | _, _, .nil, _ => rfl
  | _, _, .cons h r, f => by
    simp only [List.all_cons, Bool.and_eq_true] at f ⊢
    exact ⟨ru_flat h f.1, rus_flat r f.2⟩
theorem eqF_ok {a b : U} {x y : V} (ra : RU K μ J a x) (rb : RU K μ J b y) (fa : flatU a = true) (fb : flatU b = true) : eqV x y = eqF a b := by
  cases ra <;> (first | (simp [flatU] at fa; done) | skip) <;> cases rb <;> (first | (simp [flatU] at fb; done) | skip) <;> (first | rfl | simp [eqV, eqF])
theorem in_ok {u : U} {x : V} (ru : RU K μ J u x) (fu : flatU u = true) : ∀ {us : List U} {vs : List V}, RUs K μ J us vs → us.all flatU = true → (vs.any fun y => eqV y x) = us.any fun y => eqF y u
  | _, _, .nil, _ => rfl
  | _, _, .cons h r, f => by
    simp only [List.all_cons, Bool.and_eq_true] at f
    simp only [List.any_cons, eqF_ok h ru f.1 fu, in_ok ru fu r f.2]
end
section
variable {X : Cx} {T : List (Addr × Str)} {ec : Str → Addr} {W : WX}
variable {μ μ1 : List Addr} {J J1 H H1 : Hp} {ρ : En} {S : Sto} {σ : L2.St}
theorem bin_eq (hu : X.A.units + 64 < cLine) : Bin2 X T (compareOp .Eq) (fun u w => (uEq u w).map .bl) :=
  ⟨_, op_eqD hu, fun {ec W μ J H ρ S σ u w z x y Q} rel ru rw e hf => by
    simp only [Option.map_eq_some_iff] at e
    obtain ⟨k, e, rfl⟩ := e
    obtain ⟨d, d', e1, e2, s1, s2, rfl⟩ := uEq_some e
    exact ⟨d, d', ru_dp rel.jh ru e1, ru_dp rel.jh rw e2, s1, s2, fin_pure rel hf (.bl _)⟩⟩
theorem bin_ne (hu : X.A.units + 64 < cLine) : Bin2 X T (compareOp .NotEq) (fun u w => ((uEq u w).map (!·)).map .bl) :=
  ⟨_, op_neD hu, fun {ec W μ J H ρ S σ u w z x y Q} rel ru rw e hf => by
    simp only [Option.map_eq_some_iff] at e
    obtain ⟨k, ⟨k2, e, rfl⟩, rfl⟩ := e
    obtain ⟨d, d', e1, e2, s1, s2, rfl⟩ := uEq_some e
    exact ⟨d, d', ru_dp rel.jh ru e1, ru_dp rel.jh rw e2, s1, s2, fin_pure rel hf (.bl _)⟩⟩
def gSB (f : Str → Str → Bool) : U → U → Option U
  | .str i, .str j => some (.bl (f i j))
  | _, _ => none
theorem bin_SB {f : Value → Value → Sem Value} {g : Str → Str → Bool} (h : OpR X f (fun x y H Q => ∃ i j, x = .str i ∧ y = .str j ∧ Q (.bl (g i j)) H)) : Bin2 X T f (gSB g) :=
  ⟨_, h, fun {ec W μ J H ρ S σ u w z x y Q} rel ru rw e hf => by
    cases u <;> cases w <;> try (simp [gSB] at e; done)
    rename_i i j
    simp only [gSB] at e
    cases e
    rw [ru_str ru, ru_str rw]
    exact ⟨i, j, rfl, rfl, fin_pure rel hf (.bl _)⟩⟩
def gIn (neg : Bool) : U → U → Option U
  | x, .tup xs => if flatU x = true ∧ xs.all flatU = true then some (.bl (if neg then !(xs.any fun y => eqF y x) else xs.any fun y => eqF y x)) else none
  | x, .lst xs => if flatU x = true ∧ xs.all flatU = true then some (.bl (if neg then !(xs.any fun y => eqF y x) else xs.any fun y => eqF y x)) else none
  | _, _ => none
theorem bin_In {f : Value → Value → Sem Value} (neg : Bool) (h : OpR X f (rIn X.K neg)) : Bin2 X T f (gIn neg) :=
  ⟨_, h, fun {ec W μ J H ρ S σ u w z x y Q} rel ru rw e hf => by
    cases rw with
    | tup hb rb =>
      simp only [gIn, Option.ite_none_right_eq_some, Option.some.injEq] at e
      obtain ⟨⟨f1, f2⟩, rfl⟩ := e
      refine ⟨_, _, rfl, .inr (rel.jh.sqT hb), ru_flat ru f1, rus_flat rb f2, ?_⟩
      have e := in_ok ru f1 rb f2
      show Q (.bl (if neg then !inV x _ else inV x _)) H
      unfold inV
      rw [e]
      exact fin_pure rel hf (.bl _)
    | lst hb rb =>
      simp only [gIn, Option.ite_none_right_eq_some, Option.some.injEq] at e
      obtain ⟨⟨f1, f2⟩, rfl⟩ := e
      refine ⟨_, _, rfl, .inl (SqL.of (rel.jh _ _ hb)), ru_flat ru f1, rus_flat rb f2, ?_⟩
      have e := in_ok ru f1 rb f2
      show Q (.bl (if neg then !inV x _ else inV x _)) H
      unfold inV
      rw [e]
      exact fin_pure rel hf (.bl _)
    | _ => simp [gIn] at e⟩
def copOf : Cop → CmpOp
  | .eq => .Eq | .ne => .NotEq | .lt => .Lt | .le => .LtE | .gt => .Gt | .ge => .GtE | .isin => .In | .notin => .NotIn
theorem cmp_all (hu : X.A.units + 64 < cLine) (o : Cop) : Bin2 X T (compareOp (copOf o)) (fun u w => (uCmp o u w).map .bl) := by
  cases o with
  | eq => exact (bin_eq hu).or Bin2.none fun u w z e => .inl e
  | ne => exact (bin_ne hu).or Bin2.none fun u w z e => .inl e
  | lt => exact (bin_IB op_lt).or (bin_SB op_lt_str) fun u w z e => by cases u <;> cases w <;> first | exact .inl e | exact .inr e | (simp [uCmp] at e; done)
  | le => exact (bin_IB op_le).or (bin_SB op_le_str) fun u w z e => by cases u <;> cases w <;> first | exact .inl e | exact .inr e | (simp [uCmp] at e; done)
  | gt => exact (bin_IB op_gt).or Bin2.none fun u w z e => by cases u <;> cases w <;> first | exact .inl e | (simp [uCmp] at e; done)
  | ge => exact (bin_IB op_ge).or Bin2.none fun u w z e => by cases u <;> cases w <;> first | exact .inl e | (simp [uCmp] at e; done)
  | isin =>
    refine (bin_In false op_in_seq).or Bin2.none fun u w z e => .inl ?_
    cases w <;> simp [uCmp, gIn] at e ⊢ <;> exact e
  | notin =>
    refine (bin_In true op_notIn_seq).or Bin2.none fun u w z e => .inl ?_
    cases w <;> simp [uCmp, gIn] at e ⊢ <;> exact e
theorem r_cmp {a b : Expr} {ma mb : En → Sto → UM U} {o : Cop} {pos : Pos} (hu : X.A.units + 64 < cLine) (hm : behindInMarks (copOf o) b = false) (ha : PE X a (TX X.K T ec W (RV X.K) ma)) (hb : PE X b (TX X.K T ec W (RV X.K) mb)) :
    PE X (.Compare a [copOf o] [b] pos) (TX X.K T ec W (RV X.K) fun ρ S => bindO (ma ρ S) fun u S => bindO (mb ρ S) fun w S => optO ((uCmp o u w).map .bl) S) := by
  obtain ⟨r, hr, k⟩ := cmp_all (X := X) (T := T) hu o
  refine pe_imp (pe_cmpR hr ha hb hm) fun σ H Q ⟨ρ, S, μ, J, rel, h⟩ => ?_
  refine tx_mono (tx_bind stab_v rel h) fun x H1 ⟨u, S1, μ1, J1, st, rel1, ru, h1⟩ => ?_
  refine tx_mono (tx_bind stab_v rel1 h1) fun y H2 ⟨w, S2, μ2, J2, st2, rel2, rw, h2⟩ => ?_
  obtain ⟨z, e, h2⟩ := fin_opt rel2 h2
  exact k rel2 (st2.ru ru) rw e h2
theorem bindO_assoc {α β γ : Type} (m : UM α) (f : α → Sto → UM β) (g : β → Sto → UM γ) : bindO (bindO m f) g = bindO m fun a S => bindO (f a S) g := by
  match m with
  | none => rfl
  | some (.err c, S) => rfl
  | some (.ok a, S) => rfl
/-- a test by a comparison's value -/
theorem tst_val {σ : L2.St} {H : Hp} {Q : Bool → Hp → Prop} {m : En → Sto → UM U} (h : TX X.K T ec W RBB (tst m) σ H Q) : TX X.K T ec W (RV X.K) m σ H (fun v H' => ∃ c, v = .bl c ∧ Q c H') := by
  obtain ⟨ρ, S, μ, J, rel, h⟩ := h
  refine tx_mono (tx_bind stab_bb rel h) fun x H1 ⟨u, S1, μ1, J1, st, rel1, ru, h1⟩ => ?_
  obtain ⟨z, e, h1⟩ := fin_opt rel1 h1
  cases u <;> simp [asB] at e
  subst e
  exact ⟨_, ru_bl ru, fin_pure rel1 h1 rfl⟩
/-- as a test -/
theorem rt_cmpV {a b : Expr} {m : En → Sto → UM U} {op : CmpOp} {pos : Pos} {r : R2} {ta tb : TE} (ho : OpR X (compareOp op) r) (ha : PE X a ta) (hb : PE X b tb) (hm : behindInMarks op b = false) (hi : ∀ σ H Q, TX X.K T ec W (RV X.K) m σ H Q → tOp r ta tb σ H Q) :
    PT X (.Compare a [op] [b] pos) (TX X.K T ec W RBB (tst m)) := pt_imp (pt_cmpR ho ha hb hm) fun σ H Q h => hi _ _ _ (tst_val h)
theorem rt_cmp {a b : Expr} {ma mb : En → Sto → UM U} {o : Cop} {pos : Pos} (hu : X.A.units + 64 < cLine) (hm : behindInMarks (copOf o) b = false) (ha : PE X a (TX X.K T ec W (RV X.K) ma)) (hb : PE X b (TX X.K T ec W (RV X.K) mb)) :
    PT X (.Compare a [copOf o] [b] pos) (TX X.K T ec W RBB (tst fun ρ S => bindO (ma ρ S) fun u S => bindO (mb ρ S) fun w S => optO ((uCmp o u w).map .bl) S)) := by
  obtain ⟨r, hr, k⟩ := cmp_all (X := X) (T := T) hu o
  refine rt_cmpV hr ha hb hm fun σ H Q ⟨ρ, S, μ, J, rel, h⟩ => ?_
  refine tx_mono (tx_bind stab_v rel h) fun x H1 ⟨u, S1, μ1, J1, st, rel1, ru, h1⟩ => ?_
  refine tx_mono (tx_bind stab_v rel1 h1) fun y H2 ⟨w, S2, μ2, J2, st2, rel2, rw, h2⟩ => ?_
  obtain ⟨z, e, h2⟩ := fin_opt rel2 h2
  exact k rel2 (st2.ru ru) rw e h2
/-- any bool-valued expression that is not a chain of and, or, not, a comparison -/
theorem rt_val {e : Expr} {m : En → Sto → UM U} (h : PE X e (TX X.K T ec W (RV X.K) m)) (he : ∀ whole, isTrue e X.env whole = (do let v ← whole; standAt e.pos; holding [v] (truthy v))) :
    PT X e (TX X.K T ec W RBB (tst m)) := pt_imp (pt_val h he) fun σ H Q h => tst_val h
theorem r_isN {a : Expr} {ma : En → Sto → UM U} {j : Nat} {pos pos' : Pos} (ha : PE X a (TX X.K T ec W (RV X.K) ma)) :
    PE X (.Compare a [.Is] [.Constant .none j pos'] pos) (TX X.K T ec W (RV X.K) fun ρ S => bindO (ma ρ S) fun u S => pureO (.bl (isNonU u)) S) := by
  refine pe_imp (pe_cmp (pc_isN ha) rfl) fun σ H Q ⟨ρ, S, μ, J, rel, h⟩ => ?_
  refine tx_mono (tx_bind stab_v rel h) fun x H1 ⟨u, S1, μ1, J1, st, rel1, ru, h1⟩ => ?_
  have e : (decide (x = .non)) = isNonU u := by cases ru <;> simp [isNonU]
  show Q (.bl (decide (x = .non))) H1
  rw [e]
  exact fin_pure rel1 h1 (.bl _)
theorem r_notN {a : Expr} {ma : En → Sto → UM U} {j : Nat} {pos pos' : Pos} (ha : PE X a (TX X.K T ec W (RV X.K) ma)) :
    PE X (.Compare a [.IsNot] [.Constant .none j pos'] pos) (TX X.K T ec W (RV X.K) fun ρ S => bindO (ma ρ S) fun u S => pureO (.bl (!isNonU u)) S) := by
  refine pe_imp (pe_cmp (pc_notN ha) rfl) fun σ H Q ⟨ρ, S, μ, J, rel, h⟩ => ?_
  refine tx_mono (tx_bind stab_v rel h) fun x H1 ⟨u, S1, μ1, J1, st, rel1, ru, h1⟩ => ?_
  have e : (!decide (x = .non)) = !isNonU u := by cases ru <;> simp [isNonU]
  show Q (.bl (!decide (x = .non))) H1
  rw [e]
  exact fin_pure rel1 h1 (.bl _)
theorem rt_isN {a : Expr} {ma : En → Sto → UM U} {j : Nat} {pos pos' : Pos} (ha : PE X a (TX X.K T ec W (RV X.K) ma)) :
    PT X (.Compare a [.Is] [.Constant .none j pos'] pos) (TX X.K T ec W RBB (tst fun ρ S => bindO (ma ρ S) fun u S => pureO (.bl (isNonU u)) S)) := by
  refine pt_imp (pt_cmp (pc_isN ha) rfl) fun σ H Q h => ?_
  obtain ⟨ρ, S, μ, J, rel, h⟩ := tst_val h
  refine tx_mono (tx_bind stab_v rel h) fun x H1 ⟨u, S1, μ1, J1, st, rel1, ru, h1⟩ => ?_
  have e : (decide (x = .non)) = isNonU u := by cases ru <;> simp [isNonU]
  refine ⟨_, rfl, ?_⟩
  obtain ⟨c, e1, q⟩ := fin_pure (v := V.bl (isNonU u)) rel1 h1 (.bl _)
  cases e1
  rw [e]
  exact q
theorem rt_notN {a : Expr} {ma : En → Sto → UM U} {j : Nat} {pos pos' : Pos} (ha : PE X a (TX X.K T ec W (RV X.K) ma)) :
    PT X (.Compare a [.IsNot] [.Constant .none j pos'] pos) (TX X.K T ec W RBB (tst fun ρ S => bindO (ma ρ S) fun u S => pureO (.bl (!isNonU u)) S)) := by
  refine pt_imp (pt_cmp (pc_notN ha) rfl) fun σ H Q h => ?_
  obtain ⟨ρ, S, μ, J, rel, h⟩ := tst_val h
  refine tx_mono (tx_bind stab_v rel h) fun x H1 ⟨u, S1, μ1, J1, st, rel1, ru, h1⟩ => ?_
  have e : (!decide (x = .non)) = !isNonU u := by cases ru <;> simp [isNonU]
  refine ⟨_, rfl, ?_⟩
  obtain ⟨c, e1, q⟩ := fin_pure (v := V.bl (!isNonU u)) rel1 h1 (.bl _)
  cases e1
  rw [e]
  exact q
end
end Wy
end
section
set_option maxRecDepth 100000
set_option maxHeartbeats 2000000
namespace Wy
open PySem PySem.Spec PyProof.Rows L2
section
variable {X : Cx} {T : List (Addr × Str)} {ec : Str → Addr} {W : WX}
variable {μ μ1 : List Addr} {J J1 H H1 : Hp} {ρ : En} {S : Sto} {σ : L2.St}
abbrev EV (X : Cx) (T : List (Addr × Str)) (ec : Str → Addr) (W : WX) (m : En → Sto → UM U) : TE := TX X.K T ec W (RV X.K) m
abbrev TV (X : Cx) (T : List (Addr × Str)) (ec : Str → Addr) (W : WX) (m : En → Sto → UM U) : TT := TX X.K T ec W RBB (tst m)
/-! ### is True -/
theorem is_read {r : R2} {ma : En → Sto → UM U} {c : Bool} {g : Bool → Bool} (hr : ∀ (b : Bool) (H : Hp) (Q : VK), Q (.bl (g b)) H → r (.bl b) (.bl c) H Q) :
    ∀ σ H Q, TX X.K T ec W (RV X.K) (fun ρ S => bindO (ma ρ S) fun u S => optO ((asB u).map fun b => .bl (g b)) S) σ H Q → tOp r (EV X T ec W ma) (EV X T ec W fun _ S => pureO (.bl c) S) σ H Q := by
  rintro σ H Q ⟨ρ, S, μ, J, rel, h⟩
  refine tx_mono (tx_bind stab_v rel h) fun x H1 ⟨u, S1, μ1, J1, st, rel1, ru, h1⟩ => ?_
  refine ⟨ρ, S1, μ1, J1, rel1, fun y μ2 J2 H2 st2 rel2 rw => ?_⟩
  have h2 := fin_later stab_v st2 h1
  have e := ru_bl rw
  subst e
  match u, ru, h2 with
  | .bl b, ru, h2 =>
    rw [ru_bl ru]
    exact hr b _ _ (h2 _ _ _ _ (Step.refl _ _ _) rel2 (.bl _))
  | .non, _, h2 | .int _, _, h2 | .str _, _, h2 | .tup _, _, h2 | .lst _, _, h2 | .fz _, _, h2 | .emp, _, h2 | .ref _, _, h2 => exact h2.elim
theorem rIsB_ok {c : Bool} (b : Bool) (H : Hp) (Q : VK) (h : Q (.bl (decide (b = c))) H) : rIsB (.bl b) (.bl c) H Q := ⟨b, c, rfl, rfl, h⟩
theorem rNotB_ok {c : Bool} (b : Bool) (H : Hp) (Q : VK) (h : Q (.bl (!decide (b = c))) H) : rNotB (.bl b) (.bl c) H Q := ⟨b, c, rfl, rfl, h⟩
theorem r_isB {a : Expr} {ma : En → Sto → UM U} {c : Bool} {j : Nat} {pos pos' : Pos} (ha : PE X a (EV X T ec W ma)) :
    PE X (.Compare a [.Is] [.Constant (.bool c) j pos'] pos) (EV X T ec W fun ρ S => bindO (ma ρ S) fun u S => optO ((asB u).map fun b => .bl (decide (b = c))) S) :=
  pe_imp (pe_cmpR op_isBl ha r_bl rfl) (is_read (g := fun b => decide (b = c)) rIsB_ok)
theorem r_notB {a : Expr} {ma : En → Sto → UM U} {c : Bool} {j : Nat} {pos pos' : Pos} (ha : PE X a (EV X T ec W ma)) :
    PE X (.Compare a [.IsNot] [.Constant (.bool c) j pos'] pos) (EV X T ec W fun ρ S => bindO (ma ρ S) fun u S => optO ((asB u).map fun b => .bl (!decide (b = c))) S) :=
  pe_imp (pe_cmpR op_notBl ha r_bl rfl) (is_read (g := fun b => !decide (b = c)) rNotB_ok)
theorem rt_isB {a : Expr} {ma : En → Sto → UM U} {c : Bool} {j : Nat} {pos pos' : Pos} (ha : PE X a (EV X T ec W ma)) :
    PT X (.Compare a [.Is] [.Constant (.bool c) j pos'] pos) (TV X T ec W fun ρ S => bindO (ma ρ S) fun u S => optO ((asB u).map fun b => .bl (decide (b = c))) S) :=
  rt_cmpV op_isBl ha r_bl rfl (is_read (g := fun b => decide (b = c)) rIsB_ok)
theorem rt_notB {a : Expr} {ma : En → Sto → UM U} {c : Bool} {j : Nat} {pos pos' : Pos} (ha : PE X a (EV X T ec W ma)) :
    PT X (.Compare a [.IsNot] [.Constant (.bool c) j pos'] pos) (TV X T ec W fun ρ S => bindO (ma ρ S) fun u S => optO ((asB u).map fun b => .bl (!decide (b = c))) S) :=
  rt_cmpV op_notBl ha r_bl rfl (is_read (g := fun b => !decide (b = c)) rNotB_ok)
/-! ### a < b < c -/
def chainU (ma mb mc : En → Sto → UM U) (o1 o2 : Cop) : En → Sto → UM U := fun ρ S => bindO (ma ρ S) fun u S => bindO (mb ρ S) fun w S => match uCmp o1 u w with
    | some true => bindO (mc ρ S) fun z S => optO ((uCmp o2 w z).map .bl) S
    | some false => pureO (.bl false) S
    | none => none
theorem chain_read {ma mb mc : En → Sto → UM U} {o1 o2 : Cop} {r r' : R2} (hu : X.A.units + 64 < cLine)
    (k1 : ∀ {ec : Str → Addr} {W : WX} {μ : List Addr} {J H : Hp} {ρ : En} {S : Sto} {σ : L2.St} {u w z : U} {x y : V} {Q : VK}, Rel X.K T μ J ρ S σ H → RU X.K μ J u x → RU X.K μ J w y → (uCmp o1 u w).map .bl = some z → Fin' X.K T ec W (RV X.K) μ J ρ σ H (pureO z S) Q → r x y H Q)
    (k2 : ∀ {ec : Str → Addr} {W : WX} {μ : List Addr} {J H : Hp} {ρ : En} {S : Sto} {σ : L2.St} {u w z : U} {x y : V} {Q : VK}, Rel X.K T μ J ρ S σ H → RU X.K μ J u x → RU X.K μ J w y → (uCmp o2 u w).map .bl = some z → Fin' X.K T ec W (RV X.K) μ J ρ σ H (pureO z S) Q → r' x y H Q) :
    ∀ σ H Q, EV X T ec W (chainU ma mb mc o1 o2) σ H Q → tChain r r' (EV X T ec W ma) (EV X T ec W mb) (EV X T ec W mc) σ H Q := by
  rintro σ H Q ⟨ρ, S, μ, J, rel, h⟩
  unfold chainU at h
  refine tx_mono (tx_bind stab_v rel h) fun x H1 ⟨u, S1, μ1, J1, st, rel1, ru, h1⟩ => ?_
  refine tx_mono (tx_bind stab_v rel1 h1) fun y H2 ⟨w, S2, μ2, J2, st2, rel2, rw, h2⟩ => ?_
  match e : uCmp o1 u w, h2 with
  | none, h2 => exact h2.elim
  | some k, h2 =>
    refine k1 (ec := ec) (W := W) (z := .bl k) rel2 (st2.ru ru) rw (by rw [e]; rfl) fun v μ3 J3 H3 st3 rel3 rv => ?_
    refine ⟨k, ru_bl rv, ?_⟩
    have h3 := fin_later stab_v st3 h2
    cases k with
    | true =>
      refine iteT ?_
      refine tx_mono (tx_bind stab_v rel3 h3) fun z H4 ⟨q, S4, μ4, J4, st4, rel4, rq, h4⟩ => ?_
      obtain ⟨z', e', h4⟩ := fin_opt rel4 h4
      exact k2 rel4 (st4.ru (st3.ru rw)) rq e' h4
    | false =>
      refine iteF ?_
      exact fin_pure rel3 h3 (.bl _)
theorem r_chain {a b c : Expr} {ma mb mc : En → Sto → UM U} {o1 o2 : Cop} {pos : Pos} (hu : X.A.units + 64 < cLine) (hm : behindInMarks (copOf o2) c = false) (hm1 : behindInMarks (copOf o1) b = false) (ha : PE X a (EV X T ec W ma)) (hb : PE X b (EV X T ec W mb)) (hc : PE X c (EV X T ec W mc))
    (hch : ∀ {r r' : R2} {ta tb tc : TE}, OpR X (compareOp (copOf o1)) r → OpR X (compareOp (copOf o2)) r' → PE X a ta → PE X b tb → PE X c tc → PE X (.Compare a [copOf o1, copOf o2] [b, c] pos) (tChain r r' ta tb tc)) :
    PE X (.Compare a [copOf o1, copOf o2] [b, c] pos) (EV X T ec W (chainU ma mb mc o1 o2)) := by
  obtain ⟨r1, hr1, k1⟩ := cmp_all (X := X) (T := T) hu o1
  obtain ⟨r2, hr2, k2⟩ := cmp_all (X := X) (T := T) hu o2
  exact pe_imp (hch hr1 hr2 ha hb hc) (chain_read hu k1 k2)
/-! ### not, and, or, if -/
theorem rt_not {a : Expr} {ma : En → Sto → UM U} {pos : Pos} (ha : PT X a (TV X T ec W ma)) : PT X (.UnaryOp .Not a pos) (TV X T ec W fun ρ S => bindO (ma ρ S) fun u S => optO ((asB u).map fun b => .bl (!b)) S) := by
  refine pt_imp (pt_not ha) fun σ H Q ⟨ρ, S, μ, J, rel, h⟩ => ?_
  refine ⟨ρ, S, μ, J, rel, ?_⟩
  unfold tst at h ⊢
  simp only [bindO_assoc] at h
  match e : ma ρ S, h with
  | none, h => exact h
  | some (.err c, S'), h => exact h
  | some (.ok (.bl b), S'), h => exact fun v μ' J' H' st q x => h _ μ' J' H' st q (congrArg (!·) x)
  | some (.ok .non, S'), h | some (.ok (.int _), S'), h | some (.ok (.str _), S'), h | some (.ok (.tup _), S'), h | some (.ok (.lst _), S'), h | some (.ok (.fz _), S'), h | some (.ok .emp, S'), h | some (.ok (.ref _), S'), h => exact h
theorem r_not {a : Expr} {ma : En → Sto → UM U} {pos : Pos} (ha : PE X a (EV X T ec W ma)) : PE X (.UnaryOp .Not a pos) (EV X T ec W fun ρ S => bindO (ma ρ S) fun u S => optO ((asB u).map fun b => .bl (!b)) S) := by
  refine pe_imp (pe_not ha) fun σ H Q ⟨ρ, S, μ, J, rel, h⟩ => ?_
  refine tx_mono (tx_bind stab_v rel h) fun x H1 ⟨u, S1, μ1, J1, st, rel1, ru, h1⟩ => ?_
  obtain ⟨z, e, h1⟩ := fin_opt rel1 h1
  cases u <;> simp [asB] at e
  subst e
  exact ⟨_, ru_bl ru, fin_pure rel1 h1 (.bl _)⟩
def andU (ma ms : En → Sto → UM U) : En → Sto → UM U := fun ρ S => bindO (ma ρ S) fun u S => match asB u with
    | some true => ms ρ S
    | some false => pureO (.bl false) S
    | none => none
def orU (ma ms : En → Sto → UM U) : En → Sto → UM U := fun ρ S => bindO (ma ρ S) fun u S => match asB u with
    | some true => pureO (.bl true) S
    | some false => ms ρ S
    | none => none
theorem asB_some {u : U} {b : Bool} (h : asB u = some b) : u = .bl b := by
  cases u <;> simp [asB] at h
  rw [h]
variable {a b : Expr} {rest : List Expr} {ma ms : En → Sto → UM U} {op : BoolOp} {pos : Pos}
theorem r_one (ha : PE X a (EV X T ec W ma)) : PE X (.BoolOp op [a] pos) (EV X T ec W fun ρ S => bindO (ma ρ S) fun u S => optO ((asB u).map .bl) S) :=
  pe_imp (pe_one ha) fun σ H Q ⟨ρ, S, μ, J, rel, h⟩ => by
    refine tx_mono (tx_bind stab_v rel h) fun x H1 ⟨u, S1, μ1, J1, st, rel1, ru, h1⟩ => ?_
    obtain ⟨z, e, h1⟩ := fin_opt rel1 h1
    simp only [Option.map_eq_some_iff] at e
    obtain ⟨c, e, rfl⟩ := e
    rw [asB_some e] at ru
    exact fin_pure rel1 h1 ru
theorem r_and (ha : PE X a (EV X T ec W ma)) (hb : PE X (.BoolOp .And (b :: rest) pos) (EV X T ec W ms)) : PE X (.BoolOp .And (a :: b :: rest) pos) (EV X T ec W (andU ma ms)) :=
  pe_imp (pe_and ha hb) fun σ H Q ⟨ρ, S, μ, J, rel, h⟩ => by
    unfold andU at h
    refine tx_mono (tx_bind stab_v rel h) fun x H1 ⟨u, S1, μ1, J1, st, rel1, ru, h1⟩ => ?_
    match e : asB u, h1 with
    | none, h1 => exact h1.elim
    | some true, h1 =>
      rw [asB_some e] at ru
      exact ⟨true, ru_bl ru, iteT ⟨ρ, S1, μ1, J1, rel1, h1⟩⟩
    | some false, h1 =>
      rw [asB_some e] at ru
      exact ⟨false, ru_bl ru, iteF (fin_pure rel1 h1 (.bl _))⟩
theorem r_or (ha : PE X a (EV X T ec W ma)) (hb : PE X (.BoolOp .Or (b :: rest) pos) (EV X T ec W ms)) : PE X (.BoolOp .Or (a :: b :: rest) pos) (EV X T ec W (orU ma ms)) :=
  pe_imp (pe_or ha hb) fun σ H Q ⟨ρ, S, μ, J, rel, h⟩ => by
    unfold orU at h
    refine tx_mono (tx_bind stab_v rel h) fun x H1 ⟨u, S1, μ1, J1, st, rel1, ru, h1⟩ => ?_
    match e : asB u, h1 with
    | none, h1 => exact h1.elim
    | some true, h1 =>
      rw [asB_some e] at ru
      exact ⟨true, ru_bl ru, iteT (fin_pure rel1 h1 (.bl _))⟩
    | some false, h1 =>
      rw [asB_some e] at ru
      exact ⟨false, ru_bl ru, iteF ⟨ρ, S1, μ1, J1, rel1, h1⟩⟩
abbrev TW (X : Cx) (T : List (Addr × Str)) (ec : Str → Addr) (W : WX) (m : En → Sto → UM U) : TT := TX X.K T ec W RBB (tst m)
theorem tst_one {ma : En → Sto → UM U} {σ : L2.St} {H : Hp} {Q : Bool → Hp → Prop} (h : TV X T ec W (fun ρ S => bindO (ma ρ S) fun u S => optO ((asB u).map .bl) S) σ H Q) : TV X T ec W ma σ H Q := by
  obtain ⟨ρ, S, μ, J, rel, h⟩ := h
  refine ⟨ρ, S, μ, J, rel, ?_⟩
  unfold tst at h ⊢
  simp only [bindO_assoc] at h
  match e : ma ρ S, h with
  | none, h => exact h
  | some (.err c, S'), h => exact h
  | some (.ok (.bl b), S'), h => exact h
  | some (.ok .non, S'), h | some (.ok (.int _), S'), h | some (.ok (.str _), S'), h | some (.ok (.tup _), S'), h | some (.ok (.lst _), S'), h | some (.ok (.fz _), S'), h | some (.ok .emp, S'), h | some (.ok (.ref _), S'), h => exact h
theorem rw_and1 (ha : PT X a (TV X T ec W ma)) : PW X (.BoolOp .And [a] pos) (TW X T ec W fun ρ S => bindO (ma ρ S) fun u S => optO ((asB u).map .bl) S) :=
  pw_imp (pw_and1 ha) fun σ H Q h => tst_one h
theorem rw_or1 (ha : PT X a (TV X T ec W ma)) : PW X (.BoolOp .Or [a] pos) (TW X T ec W fun ρ S => bindO (ma ρ S) fun u S => optO ((asB u).map .bl) S) :=
  pw_imp (pw_or1 ha) fun σ H Q h => tst_one h
/-- a test first, then by its answer -/
theorem tst_first {f : U → Sto → UM U} (rel : Rel X.K T μ J ρ S σ H) {Q : Bool → Hp → Prop} (hf : ∀ u S, asB u = none → f u S = none) (h : Fin' X.K T ec W RBB μ J ρ σ H (tst (fun ρ S => bindO (ma ρ S) f) ρ S) Q) :
    TV X T ec W ma σ H (fun c H1 => ∃ S1 μ1 J1, Step μ J H μ1 J1 H1 ∧ Rel X.K T μ1 J1 ρ S1 σ H1 ∧ Fin' X.K T ec W RBB μ1 J1 ρ σ H1 (bindO (f (.bl c) S1) fun u S => optO (asB u) S) Q) := by
  refine ⟨ρ, S, μ, J, rel, ?_⟩
  have h' : Fin' X.K T ec W RBB μ J ρ σ H (bindO (bindO (ma ρ S) f) fun u S => optO (asB u) S) Q := h
  rw [bindO_assoc] at h'
  show Fin' X.K T ec W RBB μ J ρ σ H (bindO (ma ρ S) fun u S => optO (asB u) S) _
  clear h
  match e : ma ρ S, h' with
  | none, h => exact h
  | some (.err c, S'), h => exact h
  | some (.ok (.bl b), S'), h =>
    intro v μ' J' H' st q x
    have x : b = v := x
    subst x
    exact ⟨S', μ', J', st, q, fin_later stab_bb st h⟩
  | some (.ok .non, S'), h | some (.ok (.int _), S'), h | some (.ok (.str _), S'), h | some (.ok (.tup _), S'), h | some (.ok (.lst _), S'), h | some (.ok (.fz _), S'), h | some (.ok .emp, S'), h | some (.ok (.ref _), S'), h =>
    have h2 : Fin' X.K T ec W RBB μ J ρ σ H (bindO (f _ S') fun u S => optO (asB u) S) Q := h
    rw [hf _ _ rfl] at h2
    exact h2.elim
theorem rw_and (ha : PT X a (TV X T ec W ma)) (hb : PW X (.BoolOp .And (b :: rest) pos) (TW X T ec W ms)) : PW X (.BoolOp .And (a :: b :: rest) pos) (TW X T ec W (andU ma ms)) :=
  pw_imp (pw_and ha hb) fun σ H Q ⟨ρ, S, μ, J, rel, h⟩ => by
    refine tx_mono (tst_first rel (fun u S e => by rw [e]) h) fun c H1 ⟨S1, μ1, J1, st, rel1, h1⟩ => ?_
    cases c with
    | true => exact iteT ⟨ρ, S1, μ1, J1, rel1, h1⟩
    | false => exact iteF (h1 false μ1 J1 H1 (Step.refl _ _ _) rel1 rfl)
theorem rw_or (ha : PT X a (TV X T ec W ma)) (hb : PW X (.BoolOp .Or (b :: rest) pos) (TW X T ec W ms)) : PW X (.BoolOp .Or (a :: b :: rest) pos) (TW X T ec W (orU ma ms)) :=
  pw_imp (pw_or ha hb) fun σ H Q ⟨ρ, S, μ, J, rel, h⟩ => by
    refine tx_mono (tst_first rel (fun u S e => by rw [e]) h) fun c H1 ⟨S1, μ1, J1, st, rel1, h1⟩ => ?_
    cases c with
    | true => exact iteT (h1 true μ1 J1 H1 (Step.refl _ _ _) rel1 rfl)
    | false => exact iteF ⟨ρ, S1, μ1, J1, rel1, h1⟩
def iteU (mc ma mb : En → Sto → UM U) : En → Sto → UM U := fun ρ S => bindO (mc ρ S) fun u S => match asB u with
    | some true => ma ρ S
    | some false => mb ρ S
    | none => none
/-- by a test's answer, any kind of end -/
theorem tst_then {α β : Type} {R : Hp → List Addr → Hp → Hp → α → β → Prop} (sb : Stab R) {f : U → Sto → UM α} (rel : Rel X.K T μ J ρ S σ H) {Q : β → Hp → Prop} (hf : ∀ u S, asB u = none → f u S = none) (h : Fin' X.K T ec W R μ J ρ σ H (bindO (ma ρ S) f) Q) :
    TV X T ec W ma σ H (fun c H1 => ∃ S1 μ1 J1, Step μ J H μ1 J1 H1 ∧ Rel X.K T μ1 J1 ρ S1 σ H1 ∧ Fin' X.K T ec W R μ1 J1 ρ σ H1 (f (.bl c) S1) Q) := by
  refine ⟨ρ, S, μ, J, rel, ?_⟩
  show Fin' X.K T ec W RBB μ J ρ σ H (bindO (ma ρ S) fun u S => optO (asB u) S) _
  match e : ma ρ S, h with
  | none, h => exact h
  | some (.err c, S'), h => exact h
  | some (.ok (.bl b), S'), h =>
    intro v μ' J' H' st q x
    have x : b = v := x
    subst x
    exact ⟨S', μ', J', st, q, fin_later sb st h⟩
  | some (.ok .non, S'), h | some (.ok (.int _), S'), h | some (.ok (.str _), S'), h | some (.ok (.tup _), S'), h | some (.ok (.lst _), S'), h | some (.ok (.fz _), S'), h | some (.ok .emp, S'), h | some (.ok (.ref _), S'), h =>
    have h2 : Fin' X.K T ec W R μ J ρ σ H (f _ S') Q := h
    rw [hf _ _ rfl] at h2
    exact h2.elim
theorem r_ite {c : Expr} {mc mb : En → Sto → UM U} (hc : PT X c (TV X T ec W mc)) (ha : PE X a (EV X T ec W ma)) (hb : PE X b (EV X T ec W mb)) : PE X (.IfExp c a b pos) (EV X T ec W (iteU mc ma mb)) :=
  pe_imp (pe_ifExp hc ha hb) fun σ H Q ⟨ρ, S, μ, J, rel, h⟩ => by
    refine tx_mono (tst_then stab_v rel (fun u S e => by rw [e]) h) fun c H1 ⟨S1, μ1, J1, st, rel1, h1⟩ => ?_
    cases c with
    | true => exact iteT ⟨ρ, S1, μ1, J1, rel1, h1⟩
    | false => exact iteF ⟨ρ, S1, μ1, J1, rel1, h1⟩
theorem isTrue_ifexp {c t e : Expr} {env : Env} {w : Sem Value} : isTrue (.IfExp c t e pos) env w = (do if ← isTrue c env (eval c env) then isTrue t env (eval t env) else isTrue e env (eval e env)) := by
  rw [PySem.isTrue]
theorem rt_ite {c : Expr} {mc mb : En → Sto → UM U} (hc : PT X c (TV X T ec W mc)) (ha : PT X a (TV X T ec W ma)) (hb : PT X b (TV X T ec W mb)) : PT X (.IfExp c a b pos) (TV X T ec W (iteU mc ma mb)) := by
  have q : PT X (.IfExp c a b pos) (fun σ H Q => TV X T ec W mc σ H fun d H1 => if d = true then TV X T ec W ma σ H1 Q else TV X T ec W mb σ H1 Q) := by
    refine ⟨fun pins s σ H Q I h => ?_⟩
    rw [isTrue_ifexp]
    refine wpAny_bind (thn (hc.run pins s σ H _ I h) fun d s1 ⟨H1, I1, q1⟩ => ?_)
    cases d with
    | true => exact ha.run pins s1 σ H1 Q I1 q1
    | false => exact hb.run pins s1 σ H1 Q I1 q1
  refine pt_imp q fun σ H Q ⟨ρ, S, μ, J, rel, h⟩ => ?_
  refine tx_mono (tst_first rel (fun u S e => by rw [e]) h) fun c H1 ⟨S1, μ1, J1, st, rel1, h1⟩ => ?_
  cases c with
  | true => exact iteT ⟨ρ, S1, μ1, J1, rel1, h1⟩
  | false => exact iteF ⟨ρ, S1, μ1, J1, rel1, h1⟩
end
end Wy
end
section
set_option maxRecDepth 100000
set_option maxHeartbeats 2000000
namespace Wy
open PySem PySem.Spec PyProof.Rows L2
section
variable {K : PySem.W.Frag} {T : List (Addr × Str)} {μ : List Addr} {J H : Hp} {ρ : En} {S : Sto} {σ : L2.St}
theorem rus_atI {us : List U} {vs : List V} {i : Int} {u : U} (r : RUs K μ J us vs) (h : atI us i = some u) : ∃ v, atI vs i = some v ∧ RU K μ J u v := by
  unfold atI at h ⊢
  rw [← r.length]
  cases e : ixN us.length i with
  | none => rw [e] at h; cases h
  | some j =>
    rw [e] at h
    obtain ⟨v, h1, h2⟩ := r.get (i := j) h
    exact ⟨v, h1, h2⟩
theorem rus_cut {us : List U} {vs : List V} {lo hi : Option Int} (r : RUs K μ J us vs) : RUs K μ J (cutU us lo hi) (cutV vs lo hi) := by
  unfold cutU cutV
  rw [r.length]
  exact (r.drop _).take _
theorem cutU_all {us : List U} {lo hi : Option Int} (h : HT.sIx us.length 0 lo = 0 ∧ HT.sIx us.length us.length hi = us.length) : cutU us lo hi = us := by
  unfold cutU
  rw [h.1, h.2]
  simp
end
section
variable {X : Cx} {T : List (Addr × Str)} {ec : Str → Addr} {W : WX}
variable {μ μ1 : List Addr} {J J1 H H1 : Hp} {ρ : En} {S : Sto} {σ : L2.St}
variable {a b : Expr} {ma mb : En → Sto → UM U} {pos : Pos}
theorem fin_v {u : U} {v : V} {Q : VK} (rel : Rel X.K T μ J ρ S σ H) (h : Fin' X.K T ec W (RV X.K) μ J ρ σ H (pureO u S) Q) (r : RU X.K μ J u v) : Q v H := h v μ J H (Step.refl _ _ _) rel r
theorem rel_ref {r : Nat} {p : Addr} {us : List U} (rel : Rel X.K T μ J ρ S σ H) (hr : μ[r]? = some p) (hs : S[r]? = some us) : ∃ vs, H p = some (.lst vs) ∧ RUs X.K μ J us vs := by
  obtain ⟨vs, h1, _, h3⟩ := rel.st r us p hs hr
  exact ⟨vs, h1, h3⟩
/-- a[i] -/
theorem r_sub (hs : PlainIx b) (ha : PE X a (EV X T ec W ma)) (hb : PE X b (EV X T ec W mb)) :
    PE X (.Subscript a b pos) (EV X T ec W fun ρ S => bindO (ma ρ S) fun u S => bindO (mb ρ S) fun w S => optO (uIdx S u w) S) :=
  pe_imp (pe_ix ix_seq ha hb hs) fun σ H Q ⟨ρ, S, μ, J, rel, h⟩ => by
    refine tx_mono (tx_bind stab_v rel h) fun x H1 ⟨u, S1, μ1, J1, st, rel1, ru, h1⟩ => ?_
    refine tx_mono (tx_bind stab_v rel1 h1) fun y H2 ⟨w, S2, μ2, J2, st2, rel2, rw, h2⟩ => ?_
    obtain ⟨z, e, hz⟩ := fin_opt rel2 h2
    clear h2 h1 h
    have ru := st2.ru ru
    cases w with
    | int i =>
      rw [ru_int rw]
      cases ru with
      | str s =>
        simp only [uIdx, Option.ite_none_right_eq_some, Option.map_eq_some_iff] at e
        obtain ⟨hl, c, hc, rfl⟩ := e
        exact .inr (.inr ⟨_, _, c, rfl, rfl, Nat.le_trans hl line_le, hc, fin_v rel2 hz (.str _)⟩)
      | tup ht r =>
        have e : atI _ i = some z := e
        obtain ⟨v, hv, rv⟩ := rus_atI r e
        exact .inr (.inl ⟨_, _, _, _, rfl, rfl, rel2.jh.sqT ht, hv, fin_v rel2 hz rv⟩)
      | lst ht r =>
        have e : atI _ i = some z := e
        obtain ⟨v, hv, rv⟩ := rus_atI r e
        exact .inl ⟨_, _, _, _, rfl, rfl, SqL.of (rel2.jh _ _ ht), hv, fin_v rel2 hz rv⟩
      | fz ht r =>
        have e : atI _ i = some z := e
        obtain ⟨v, hv, rv⟩ := rus_atI r e
        exact .inl ⟨_, _, _, _, rfl, rfl, rel2.jh.sqL ht, hv, fin_v rel2 hz rv⟩
      | ref hr =>
        rename_i r p
        simp only [uIdx, seqOf, Option.bind_eq_some_iff] at e
        obtain ⟨us, hus, e⟩ := e
        obtain ⟨vs, h3, r⟩ := rel_ref rel2 hr hus
        obtain ⟨v, hv, rv⟩ := rus_atI r e
        exact .inl ⟨_, _, _, _, rfl, rfl, SqL.of h3, hv, fin_v rel2 hz rv⟩
      | _ => simp [uIdx, seqOf] at e
    | _ => simp [uIdx] at e
/-! ### slices -/
theorem r_no : PO X none (TX X.K T ec W RO fun _ S => pureO none S) := po_imp po_none fun σ H Q ⟨ρ, S, μ, J, rel, h⟩ => fin_pure rel h rfl
theorem r_so (ha : PE X a (EV X T ec W ma)) : PO X (some a) (TX X.K T ec W RO fun ρ S => bindO (ma ρ S) fun u S => optO ((asI u).map some) S) :=
  po_imp (po_some ha) fun σ H Q ⟨ρ, S, μ, J, rel, h⟩ => by
    refine tx_mono (tx_bind stab_o rel h) fun x H1 ⟨u, S1, μ1, J1, st, rel1, ru, h1⟩ => ?_
    obtain ⟨z, e, h1⟩ := fin_opt rel1 h1
    cases u <;> simp [asI] at e
    subst e
    exact ⟨_, ru_int ru, fin_pure rel1 h1 rfl⟩
theorem r_slc {lo hi : Option Expr} {p2 : Pos} {ml mh : En → Sto → UM (Option Int)} (ha : PE X a (EV X T ec W ma)) (hl : PO X lo (TX X.K T ec W RO ml)) (hh : PO X hi (TX X.K T ec W RO mh)) :
    PE X (.Subscript a (.Slice lo hi none p2) pos) (EV X T ec W fun ρ S => bindO (ma ρ S) fun u S => bindO (ml ρ S) fun l S => bindO (mh ρ S) fun h S => optO (uSlc u l h) S) :=
  pe_imp (pe_slice (sl_tupA.or (sl_list.or sl_str)) ha hl hh) fun σ H Q ⟨ρ, S, μ, J, rel, h⟩ => by
    refine tx_mono (tx_bind stab_v rel h) fun x H1 ⟨u, S1, μ1, J1, st, rel1, ru, h1⟩ => ?_
    refine tx_mono (tx_bind stab_v rel1 h1) fun l H2 ⟨l', S2, μ2, J2, st2, rel2, el, h2⟩ => ?_
    have el : l' = l := el
    subst el
    refine tx_mono (tx_bind stab_v rel2 h2) fun hh H3 ⟨hh', S3, μ3, J3, st3, rel3, eh, h3⟩ => ?_
    have eh : hh' = hh := eh
    subst eh
    obtain ⟨z, e, h3⟩ := fin_opt rel3 h3
    have ru := st3.ru (st2.ru ru)
    cases ru with
    | tup ht r =>
      simp only [uSlc, Option.some.injEq] at e
      subst e
      refine .inl ⟨_, _, rfl, rel3.jh.sqT ht, fun c => ?_, fun c p hp => ?_⟩
      · rw [← r.length] at c
        rw [cutU_all c] at h3
        exact fin_pure rel3 h3 (.tup ht r)
      · obtain ⟨st4, rel4⟩ := rel3.lay (o := .tup _) hp
        exact fin_step st4 rel4 h3 (.tup (SqT.of upd_same) (st4.rus (rus_cut r)))
    | lst ht r =>
      simp only [uSlc, Option.some.injEq] at e
      subst e
      refine .inr (.inl ⟨_, _, rfl, SqL.of (rel3.jh _ _ ht), fun p hp => ?_⟩)
      obtain ⟨st4, rel4⟩ := rel3.lay (o := .lst _) hp
      exact fin_step st4 rel4 h3 (.lst upd_same (st4.rus (rus_cut r)))
    | fz ht r =>
      simp only [uSlc, Option.some.injEq] at e
      subst e
      refine .inr (.inl ⟨_, _, rfl, rel3.jh.sqL ht, fun p hp => ?_⟩)
      obtain ⟨st4, rel4⟩ := rel3.lay (o := .lst _) hp
      exact fin_step st4 rel4 h3 (.lst upd_same (st4.rus (rus_cut r)))
    | str s =>
      simp only [uSlc, Option.ite_none_right_eq_some, Option.some.injEq] at e
      obtain ⟨hl, rfl⟩ := e
      exact .inr (.inr ⟨_, rfl, Nat.le_trans hl line_le, fin_pure rel3 h3 (.str _)⟩)
    | _ => simp [uSlc] at e
/-! ### a[::-1] -/
def tRevT (K : PySem.W.Frag) (te : TE) : TE := fun σ H Q => te σ H fun x H1 => ∃ a xs, x = .ref a ∧ SqT K H1 a xs ∧ ∀ p, H1 p = none → Q (.ref p) (upd H1 p (.tup xs.reverse))
end
end Wy
end
section
set_option maxRecDepth 100000
set_option maxHeartbeats 2000000
namespace Wy
open PySem PySem.Spec PyProof.Rows L2
section
variable {X : Cx} {T : List (Addr × Str)} {ec : Str → Addr} {W : WX}
variable {μ μ1 : List Addr} {J J1 H H1 : Hp} {ρ : En} {S : Sto} {σ : L2.St}
variable {a b : Expr} {ma mb : En → Sto → UM U} {pos : Pos}
/-- a built-in of one value -/
def Blt1 (X : Cx) (T : List (Addr × Str)) (fv : Value) (g : Sto → U → Option U) : Prop :=
  ∃ r, CallR X fv r ∧ ∀ {ec : Str → Addr} {W : WX} {μ : List Addr} {J H : Hp} {ρ : En} {S : Sto} {σ : L2.St} {u z : U} {x : V} {Q : VK},
    Rel X.K T μ J ρ S σ H → RU X.K μ J u x → g S u = some z → Fin' X.K T ec W (RV X.K) μ J ρ σ H (pureO z S) Q → r [x] H Q
def bfV : Bf → Value
  | .len => .builtin "len" | .int => .type "int" | .abs => .builtin "abs" | .ord => .builtin "ord" | .tuple => .type "tuple" | .all => .builtin "all" | .list => .type "list"
def bfN : Bf → Str
  | .len => "len" | .int => "int" | .abs => "abs" | .ord => "ord" | .tuple => "tuple" | .all => "all" | .list => "list"
theorem bools_some : ∀ {us : List U} {bs : List Bool} {vs : List V}, bools us = some bs → RUs X.K μ J us vs → vs = bs.map V.bl
  | [], bs, _, h, .nil => by simp only [bools, Option.some.injEq] at h; subst h; rfl
  | u :: us, bs, _, h, .cons ru r => by
    cases u with
    | bl b =>
      simp only [bools, Option.map_eq_some_iff] at h
      obtain ⟨bs', h, rfl⟩ := h
      rw [ru_bl ru, bools_some h r]
      rfl
    | _ => simp [bools] at h
theorem blt_all (hc : X.calm = true) (f : Bf) : Blt1 X T (bfV f) (fun S u => uBlt S f u) := by
  cases f with
  | len =>
    refine ⟨_, call_len, fun {ec W μ J H ρ S σ u z x Q} rel ru e hf => ?_⟩
    cases ru with
    | str s =>
      simp only [uBlt, Option.ite_none_right_eq_some, Option.some.injEq] at e
      obtain ⟨hl, rfl⟩ := e
      exact ⟨_, _, rfl, ⟨Nat.le_trans hl line_le, rfl⟩, fin_v rel hf (.int _)⟩
    | tup ht r =>
      simp only [uBlt, seqOf, Option.map_some, Option.some.injEq] at e
      subst e
      rw [r.length] at hf
      exact ⟨_, _, rfl, .inr ⟨_, rel.jh.sqT ht, rfl⟩, fin_v rel hf (.int _)⟩
    | lst ht r =>
      simp only [uBlt, seqOf, Option.map_some, Option.some.injEq] at e
      subst e
      rw [r.length] at hf
      exact ⟨_, _, rfl, .inl ⟨_, SqL.of (rel.jh _ _ ht), rfl⟩, fin_v rel hf (.int _)⟩
    | fz ht r =>
      simp only [uBlt, seqOf, Option.map_some, Option.some.injEq] at e
      subst e
      rw [r.length] at hf
      exact ⟨_, _, rfl, .inl ⟨_, rel.jh.sqL ht, rfl⟩, fin_v rel hf (.int _)⟩
    | ref hr =>
      simp only [uBlt, seqOf, Option.map_eq_some_iff] at e
      obtain ⟨us, hus, rfl⟩ := e
      obtain ⟨vs, h3, r⟩ := rel_ref rel hr hus
      rw [r.length] at hf
      exact ⟨_, _, rfl, .inl ⟨_, SqL.of h3, rfl⟩, fin_v rel hf (.int _)⟩
    | _ => simp [uBlt, seqOf] at e
  | int =>
    refine ⟨_, call_int1, fun {ec W μ J H ρ S σ u z x Q} rel ru e hf => ?_⟩
    cases ru with
    | int i => simp only [uBlt, Option.some.injEq] at e; subst e; exact .inl ⟨_, rfl, fin_v rel hf (.int _)⟩
    | bl i => simp only [uBlt, Option.some.injEq] at e; subst e; exact .inr ⟨_, rfl, fin_v rel hf (.int _)⟩
    | _ => simp [uBlt] at e
  | abs =>
    refine ⟨_, call_abs, fun {ec W μ J H ρ S σ u z x Q} rel ru e hf => ?_⟩
    cases ru with
    | int i => simp only [uBlt, Option.some.injEq] at e; subst e; exact ⟨_, rfl, fin_v rel hf (.int _)⟩
    | _ => simp [uBlt] at e
  | ord =>
    refine ⟨_, call_ord, fun {ec W μ J H ρ S σ u z x Q} rel ru e hf => ?_⟩
    cases ru with
    | str i =>
      simp only [uBlt, Option.ite_none_right_eq_some, Option.some.injEq] at e
      obtain ⟨hl, rfl⟩ := e
      exact ⟨_, rfl, hl, fin_v rel hf (.int _)⟩
    | _ => simp [uBlt] at e
  | tuple =>
    refine ⟨_, call_tuple_of, fun {ec W μ J H ρ S σ u z x Q} rel ru e hf => ?_⟩
    cases ru with
    | tup ht r =>
      simp only [uBlt, Option.some.injEq] at e; subst e
      exact ⟨_, _, rfl, .inr ⟨rel.jh.sqT ht, fin_v rel hf (.tup ht r)⟩⟩
    | lst ht r =>
      simp only [uBlt, Option.some.injEq] at e; subst e
      refine ⟨_, _, rfl, .inl ⟨SqL.of (rel.jh _ _ ht), fun p hp => ?_⟩⟩
      obtain ⟨st4, rel4⟩ := rel.lay (o := .tup _) hp
      exact fin_step st4 rel4 hf (.tup (SqT.of upd_same) (st4.rus r))
    | _ => simp [uBlt] at e
  | list =>
    refine ⟨_, call_list_of, fun {ec W μ J H ρ S σ u z x Q} rel ru e hf => ?_⟩
    cases ru with
    | tup ht r =>
      simp only [uBlt, Option.some.injEq] at e; subst e
      refine ⟨_, _, rfl, .inr (rel.jh.sqT ht), fun p hp => ?_⟩
      obtain ⟨st4, rel4⟩ := rel.lay (o := .lst _) hp
      exact fin_step st4 rel4 hf (.lst upd_same (st4.rus r))
    | lst ht r =>
      simp only [uBlt, Option.some.injEq] at e; subst e
      refine ⟨_, _, rfl, .inl (SqL.of (rel.jh _ _ ht)), fun p hp => ?_⟩
      obtain ⟨st4, rel4⟩ := rel.lay (o := .lst _) hp
      exact fin_step st4 rel4 hf (.lst upd_same (st4.rus r))
    | _ => simp [uBlt] at e
  | all =>
    refine ⟨_, cr_all hc, fun {ec W μ J H ρ S σ u z x Q} rel ru e hf => ?_⟩
    cases ru with
    | lst ht r =>
      simp only [uBlt, Option.map_eq_some_iff] at e
      obtain ⟨bs, hb, rfl⟩ := e
      have q := bools_some hb r
      rw [q] at ht
      exact ⟨_, bs, rfl, SqL.of (rel.jh _ _ ht), fin_v rel hf (.bl _)⟩
    | _ => simp [uBlt] at e
theorem bf_boot (f : Bf) : (∃ id, bfV f = .builtin id ∧ bootBuiltins (bfN f) = some (.builtin id)) ∨ ∃ id, bfV f = .type id ∧ bootBuiltins (bfN f) = some (.type id) := by
  cases f <;> first | exact .inl ⟨_, rfl, by decide +kernel⟩ | exact .inr ⟨_, rfl, by decide +kernel⟩
theorem bf_name (f : Bf) : bfN f ≠ "__name__" ∧ (bfN f == ("__debug__" : Str)) = false := by
  cases f <;> exact ⟨by decide, by decide⟩
theorem r_blt {f : Bf} {p : Pos} (hc : X.calm = true) (hg : Gl X (bfN f)) (hm : X.mg (bfN f) = none) (he : starEach [a] X.env = [(false, eval a X.env)]) (ha : PE X a (EV X T ec W ma)) :
    PE X (.Call (.Name (bfN f) p) [a] [] pos) (EV X T ec W fun ρ S => bindO (ma ρ S) fun u S => optO (uBlt S f u) S) := by
  obtain ⟨r, hr, k⟩ := blt_all (T := T) hc f
  have he0 : starEach ([] : List Expr) X.env = [] := rfl
  have hpa : PA X [a] (tCons (EV X T ec W ma) tNil) := pa_cons ha pa_nil (by rw [he, he0])
  have hpl : (backTo pos (starEach ([] : List Expr) X.env)).any (·.1) = false := rfl
  have main : PE X (.Call (.Name (bfN f) p) [a] [] pos) (tCB r (tCons (EV X T ec W ma) tNil)) := by
    rcases bf_boot f with ⟨id, e1, e2⟩ | ⟨id, e1, e2⟩
    · rw [e1] at hr
      exact pe_callB hr hg hm e2 hpa (bf_name f).1 (bf_name f).2 (by rw [he, he0]) hpl
    · rw [e1] at hr
      exact pe_callTy hr hg hm e2 hpa (bf_name f).1 (bf_name f).2 (by rw [he, he0]) hpl
  refine pe_imp main fun σ H Q ⟨ρ, S, μ, J, rel, h⟩ => ?_
  refine tx_mono (tx_bind stab_v rel h) fun x H1 ⟨u, S1, μ1, J1, st, rel1, ru, h1⟩ => ?_
  obtain ⟨z, e, hz⟩ := fin_opt rel1 h1
  exact k rel1 ru e hz
/-! ### isinstance -/
def tyN : U → String
  | .non => "NoneType" | .bl _ => "bool" | .int _ => "int" | .str _ => "str" | .tup _ => "tuple" | .lst _ => "list" | .fz _ => "list" | .emp => "dict" | .ref _ => "list"
def tyS : Ty → String
  | .int => "int" | .bool => "bool" | .str => "str" | .tuple => "tuple" | .list => "list"
def tyStr : Ty → Str
  | .int => "int" | .bool => "bool" | .str => "str" | .tuple => "tuple" | .list => "list"
theorem kit_isi (t : Ty) (u : U) : kitB (tyN u) (tyS t) = some (isiU t u) := by
  cases t <;> cases u <;> (simp only [tyN, tyS, isiU]; decide +kernel)
theorem ru_ty {u : U} {x : V} (rel : Rel X.K T μ J ρ S σ H) (r : RU X.K μ J u x) : TyX X.K H x (.type (tyN u)) := by
  cases r with
  | non => exact .base .non
  | bl b => exact .base (.bl b)
  | int i => exact .base (.int i)
  | str s => exact .base (.str s)
  | tup ht r =>
    rcases rel.jh.sqT ht with (h | ⟨o, h⟩) | ⟨o, its, n, hk, hc, _⟩
    · exact .base (.tup h)
    · exact .fTuple h
    · exact .kTuple hk hc
  | lst ht r => exact .base (.lst (rel.jh _ _ ht))
  | fz ht r =>
    rcases rel.jh.sqL ht with (h | ⟨o, h⟩) | ⟨o, its, n, hk, hc, _⟩
    · exact .base (.lst h)
    · exact .base (.frz h)
    · exact .kList hk hc
  | emp ht => exact .base (.dK (rel.jh _ _ ht))
  | ref hr =>
    rename_i r p
    have hlt : r < S.length := by rw [← rel.ml]; exact (List.getElem?_eq_some_iff.mp hr).1
    obtain ⟨vs, h3, _⟩ := rel_ref rel hr (show S[r]? = some S[r] by simp [hlt])
    exact .base (.lst h3)
theorem ty_boot (t : Ty) : bootBuiltins (tyStr t) = some (.type (tyS t)) := by cases t <;> decide +kernel
theorem ty_name (t : Ty) : tyStr t ≠ "__name__" ∧ (tyStr t == ("__debug__" : Str)) = false := by cases t <;> exact ⟨by decide, by decide⟩
theorem r_isi {t : Ty} {p p2 : Pos} (hg : Gl X "isinstance") (hm : X.mg "isinstance" = none) (hgt : Gl X (tyStr t)) (hmt : X.mg (tyStr t) = none) (he : starEach [a, .Name (tyStr t) p2] X.env = [(false, eval a X.env), (false, eval (.Name (tyStr t) p2) X.env)]) (ha : PE X a (EV X T ec W ma)) :
    PE X (.Call (.Name "isinstance" p) [a, .Name (tyStr t) p2] [] pos) (EV X T ec W fun ρ S => bindO (ma ρ S) fun u S => pureO (.bl (isiU t u)) S) := by
  have he1 : starEach ([.Name (tyStr t) p2] : List Expr) X.env = [(false, eval (.Name (tyStr t) p2) X.env)] := rfl
  have ht : PE X (.Name (tyStr t) p2) (tC (.ty (tyS t))) := pe_bltn hgt hmt (ty_boot t) rfl (ty_name t).1 (ty_name t).2
  have hpa : PA X [a, .Name (tyStr t) p2] (tCons (EV X T ec W ma) (tCons (tC (.ty (tyS t))) tNil)) := pa_cons ha (pa_cons ht pa_nil) (by rw [he, he1])
  refine pe_imp (pe_callB call_isi hg hm (by decide +kernel) hpa (by decide) (by decide) (by rw [he, he1]) (by rw [he1]; rfl)) fun σ H Q ⟨ρ, S, μ, J, rel, h⟩ => ?_
  refine tx_mono (tx_bind stab_v rel h) fun x H1 ⟨u, S1, μ1, J1, st, rel1, ru, h1⟩ => ?_
  exact ⟨x, _, _, _, _, rfl, .ty _, ru_ty rel1 ru, kit_ty (kit_isi t u), fin_v rel1 h1 (.bl _)⟩
theorem ownLen_some {o : Option Slot} {z : U} (h : ownLen o = some z) : ∃ us, o = some (.own us) ∧ z = .int us.length := by
  unfold ownLen at h
  split at h
  · cases h; exact ⟨_, rfl, rfl⟩
  · cases h
/-- len of an own list -/
theorem r_olen {i : Nat} {x : Str} {p p2 : Pos} (hg : Gl X "len") (hm : X.mg "len" = none) (hN : X.N[i]? = some x) (hv : Vis X.env.scope x) (hd : (x == ("__debug__" : Str)) = false) (hcd : (x == ("__classdict__" : Str)) = false) :
    PE X (.Call (.Name "len" p) [.Name x p2] [] pos) (EV X T ec W fun ρ S => optO (ownLen ρ[i]?) S) := by
  refine pe_imp (pe_callB call_len hg hm (by decide +kernel) (pa_cons (pe_var (i := i) hN hv hd hcd) pa_nil)) fun σ H Q ⟨ρ, S, μ, J, rel, h⟩ => ?_
  obtain ⟨z, e, hz⟩ := fin_opt rel h
  obtain ⟨us, e0, rfl⟩ := ownLen_some e
  obtain ⟨o, e1, p, vs, e2, h1, _, _, r⟩ := rel.at e0
  rw [r.length] at hz
  have hL : LenV X.K (.ref p) H vs.length := Or.inl ⟨vs, SqL.of h1, rfl⟩
  exact ⟨.ref p, by rw [e1, e2], .ref p, vs.length, rfl, hL, fin_v rel hz (.int _)⟩
/-! ### calls -/
theorem Rel.forget {K : PySem.W.Frag} (rel : Rel K T μ J ρ S σ H) : Rel K T μ J [] S [] H := ⟨rfl, rel.jh, rel.ml, rel.mn, rel.st, fun i s o e => by simp at e, fun i j us ws p e => by simp at e, rel.tab, rel.jt⟩
theorem Rel.after {K : PySem.W.Frag} {μ' : List Addr} {J' H' : Hp} {S' : Sto} (rel : Rel K T μ J ρ S σ H) (st : Step μ J H μ' J' H') (q : Rel K T μ' J' [] S' [] H') : Rel K T μ' J' ρ S' σ H' := by
  refine ⟨rel.len, q.jh, q.ml, q.mn, q.st, fun i s o e1 e2 => ?_, rel.inj, q.tab, q.jt⟩
  have r := rel.sl i s o e1 e2
  cases s with
  | nil => trivial
  | v u => obtain ⟨w, e, h⟩ := r; exact ⟨w, e, st.ru h⟩
  | own us =>
    obtain ⟨p, vs, e, h1, h2, h3, h4⟩ := r
    obtain ⟨k1, k2, k3⟩ := st.keep h1 h2 h3
    exact ⟨p, vs, e, k1, k2, k3, st.rus h4⟩
/-- a def's promise by the tongue -/
def spU (K : PySem.W.Frag) (T : List (Addr × Str)) (ec : Str → Addr) (n : Nat) (sem : List U → Sto → UM U) : Sp := fun vs H Q E =>
  vs.length = n ∧ ∃ us S μ J, Rel K T μ J [] S [] H ∧ RUs K μ J us vs ∧ Fin' K T ec (fun cls d _ H => E cls d H) (RV K) μ J [] [] H (sem us S) Q
theorem fin_call {sem : List U → Sto → UM U} {us : List U} {vs : List V} {n : Nat} {Q : VK} (rel : Rel X.K T μ J ρ S σ H) (ru : RUs X.K μ J us vs) (hn : us.length = n) (h : Fin' X.K T ec W (RV X.K) μ J ρ σ H (sem us S) Q) : spU X.K T ec n sem vs H Q (WE W σ) := by
  refine ⟨by rw [← ru.length]; exact hn, us, S, μ, J, rel.forget, ru, ?_⟩
  match e : sem us S, h with
  | none, h => exact h
  | some (.err c, S'), h => exact fun μ' J' H' st q => h μ' J' H' st (rel.after st q)
  | some (.ok u, S'), h => exact fun v μ' J' H' st q r => h v μ' J' H' st (rel.after st q) r
theorem fin_rus {α β : Type} {R : Hp → List Addr → Hp → Hp → α → β → Prop} {n m : Nat} {r : UM α} {Q : β → Hp → Prop} (h : Fin' X.K T ec W R μ J ρ σ H (if n = m then r else none) Q) : n = m ∧ Fin' X.K T ec W R μ J ρ σ H r Q := by
  by_cases c : n = m
  · rw [if_pos c] at h; exact ⟨c, h⟩
  · rw [if_neg c] at h; exact h.elim
theorem r_call {x : Str} {f : Addr} {fd : FuncData} {ps : List Str} {k n : Nat} {sem : List U → Sto → UM U} {e : Expr} {es : List Expr} {ms : En → Sto → UM (List U)} {p : Pos}
    (F : FnOk X.prog X.w X.K X.mg X.base (L2.CX X.prog X.w) k f fd ps (spU X.K T ec n sem)) (hr : Room k X.A) (hg : Gl X x) (hm : X.mg x = some (.ref f)) (hk : PySem.W.keepIn X.K (.ref f) = true) (hb : Binds X.K fd ps []) (tk : Takes X W)
    (hd : (x == ("__debug__" : Str)) = false) (he : starEach (e :: es) X.env = (false, eval e X.env) :: starEach es X.env) (hpl : (backTo pos (starEach es X.env)).any (·.1) = false) (hs : ∀ us S, us.length ≠ n → sem us S = none)
    (ha : PA X (e :: es) (TX X.K T ec W (RA X.K) ms)) :
    PE X (.Call (.Name x p) (e :: es) [] pos) (EV X T ec W fun ρ S => bindO (ms ρ S) fun us S => sem us S) :=
  pe_imp (pe_callS F hr hg hm hk hb (fun σ => passAt tk σ) ha hd he hpl) fun σ H Q ⟨ρ, S, μ, J, rel, h⟩ => by
    refine tx_mono (tx_bind stab_v rel h) fun vs H1 ⟨us, S1, μ1, J1, st, rel1, ru, h1⟩ => ?_
    by_cases c : us.length = n
    · exact fin_call rel1 ru c h1
    · rw [hs us S1 c] at h1; exact h1.elim
end
end Wy
end
section
set_option maxRecDepth 100000
set_option maxHeartbeats 2000000
namespace Wy
open PySem PySem.Spec PyProof.Rows L2
section
variable {K : PySem.W.Frag} {T : List (Addr × Str)} {μ : List Addr} {J H : Hp} {ρ : En} {S : Sto} {σ : L2.St}
theorem Rel.setV (rel : Rel K T μ J ρ S σ H) (i : Nat) {u : U} {v : V} (r : RU K μ J u v) : Rel K T μ J (ρ.set i (.v u)) S (σ.set i (some v)) H := by
  refine ⟨by simp [rel.len], rel.jh, rel.ml, rel.mn, rel.st, fun j s o e1 e2 => ?_, fun j k us ws p e1 e2 e3 e4 => ?_, rel.tab, rel.jt⟩
  · by_cases q : i = j
    · subst q
      have hi : i < ρ.length := by
        have := (List.getElem?_eq_some_iff.mp e1).1
        simpa using this
      have hj : i < σ.length := by rw [← rel.len]; exact hi
      rw [List.getElem?_set_self hi] at e1
      rw [List.getElem?_set_self hj] at e2
      cases e1; cases e2
      exact ⟨v, rfl, r⟩
    · rw [List.getElem?_set_ne q] at e1 e2
      exact rel.sl j s o e1 e2
  · have h1 : i ≠ j := fun q => by
      subst q
      have hi : i < ρ.length := by
        have := (List.getElem?_eq_some_iff.mp e1).1
        simpa using this
      rw [List.getElem?_set_self hi] at e1; cases e1
    have h2 : i ≠ k := fun q => by
      subst q
      have hi : i < ρ.length := by
        have := (List.getElem?_eq_some_iff.mp e2).1
        simpa using this
      rw [List.getElem?_set_self hi] at e2; cases e2
    rw [List.getElem?_set_ne h1] at e1 e3
    rw [List.getElem?_set_ne h2] at e2 e4
    exact rel.inj j k us ws p e1 e2 e3 e4
theorem Rel.setN (rel : Rel K T μ J ρ S σ H) (i : Nat) (o' : Option V) : Rel K T μ J (ρ.set i .nil) S (σ.set i o') H := by
  refine ⟨by simp [rel.len], rel.jh, rel.ml, rel.mn, rel.st, fun j s o e1 e2 => ?_, fun j k us ws p e1 e2 e3 e4 => ?_, rel.tab, rel.jt⟩
  · by_cases q : i = j
    · subst q
      have hi : i < ρ.length := by
        have := (List.getElem?_eq_some_iff.mp e1).1
        simpa using this
      rw [List.getElem?_set_self hi] at e1
      cases e1
      trivial
    · rw [List.getElem?_set_ne q] at e1 e2
      exact rel.sl j s o e1 e2
  · have h1 : i ≠ j := fun q => by
      subst q
      have hi : i < ρ.length := by
        have := (List.getElem?_eq_some_iff.mp e1).1
        simpa using this
      rw [List.getElem?_set_self hi] at e1; cases e1
    have h2 : i ≠ k := fun q => by
      subst q
      have hi : i < ρ.length := by
        have := (List.getElem?_eq_some_iff.mp e2).1
        simpa using this
      rw [List.getElem?_set_self hi] at e2; cases e2
    rw [List.getElem?_set_ne h1] at e1 e3
    rw [List.getElem?_set_ne h2] at e2 e4
    exact rel.inj j k us ws p e1 e2 e3 e4
theorem Rel.wipe : ∀ (vs : List Nat) {ρ : En} {σ : L2.St}, Rel K T μ J ρ S σ H → Rel K T μ J (wipeU ρ vs) S (L2.wipe σ vs) H
  | [], _, _, rel => rel
  | v :: vs, _, _, rel => (Rel.wipe vs rel).setN v none
/-- the slots of a target -/
def tgS : Tg → List Nat
  | .n i => [i] | .t2 i j => [i, j] | .t3 i j k => [i, j, k]
def gOf (K : PySem.W.Frag) : Tg → TG
  | .n i => gName i
  | .t2 i j => gTup K 2 (gCons (gName i) (gCons (gName j) gNil))
  | .t3 i j k => gTup K 3 (gCons (gName i) (gCons (gName j) (gCons (gName k) gNil)))
theorem wipe_set {σ : L2.St} {i : Nat} {o : Option V} : ∀ {vs : List Nat}, i ∈ vs → L2.wipe (σ.set i o) vs = L2.wipe σ vs
  | [], h => by simp at h
  | v :: vs, h => by
    unfold L2.wipe
    by_cases q : i ∈ vs
    · rw [wipe_set q]
    · have e : i = v := by rcases List.mem_cons.mp h with h | h; exact h; exact absurd h q
      subst e
      have : ∀ (vs : List Nat), i ∉ vs → L2.wipe (σ.set i o) vs = (L2.wipe σ vs).set i o := fun vs => by
        induction vs with
        | nil => intro _; rfl
        | cons w vs ih =>
          intro h
          simp only [List.mem_cons, not_or] at h
          unfold L2.wipe
          rw [ih h.2, List.set_comm _ _ h.1]
      rw [this vs q, List.set_set]
theorem wipe_idem (σ : L2.St) : ∀ (vs : List Nat), L2.wipe (L2.wipe σ vs) vs = L2.wipe σ vs := by
  have key : ∀ (ws vs : List Nat), (∀ i ∈ ws, i ∈ vs) → L2.wipe (L2.wipe σ ws) vs = L2.wipe σ vs := fun ws => by
    induction ws with
    | nil => intro _ _; rfl
    | cons w ws ih =>
      intro vs h
      show L2.wipe ((L2.wipe σ ws).set w none) vs = _
      rw [wipe_set (h w List.mem_cons_self)]
      exact ih vs fun i hi => h i (List.mem_cons_of_mem _ hi)
  exact fun vs => key vs vs fun _ h => h
/-- own lists of the later slots are those of the former ones -/
def OwnK (ρ : En) (σ : L2.St) (ρ' : En) (σ' : L2.St) : Prop := ∀ (j : Nat) (us : List U) (p : Addr), ρ'[j]? = some (.own us) → σ'[j]? = some (some (.ref p)) → ρ[j]? = some (.own us) ∧ σ[j]? = some (some (.ref p))
theorem OwnK.refl {ρ : En} {σ : L2.St} : OwnK ρ σ ρ σ := fun _ _ _ h k => ⟨h, k⟩
theorem OwnK.set {ρ ρ' : En} {σ σ' : L2.St} (h : OwnK ρ σ ρ' σ') (i : Nat) (u : U) (v : V) : OwnK ρ σ (ρ'.set i (.v u)) (σ'.set i (some v)) := fun j us p e1 e2 => by
  by_cases q : i = j
  · subst q
    have hi : i < ρ'.length := by
      have := (List.getElem?_eq_some_iff.mp e1).1
      simpa using this
    rw [List.getElem?_set_self hi] at e1; cases e1
  · rw [List.getElem?_set_ne q] at e1 e2
    exact h j us p e1 e2
theorem rus2 {a b : U} {vs : List V} (r : RUs K μ J [a, b] vs) : ∃ x y, vs = [x, y] ∧ RU K μ J a x ∧ RU K μ J b y := by
  cases r with
  | cons r1 r =>
    cases r with
    | cons r2 r =>
      cases r
      exact ⟨_, _, rfl, r1, r2⟩
theorem rus3 {a b c : U} {vs : List V} (r : RUs K μ J [a, b, c] vs) : ∃ x y z, vs = [x, y, z] ∧ RU K μ J a x ∧ RU K μ J b y ∧ RU K μ J c z := by
  cases r with
  | cons r1 r =>
    obtain ⟨x, y, e, r2, r3⟩ := rus2 r
    subst e
    exact ⟨_, _, _, rfl, r1, r2, r3⟩
theorem tup2_some {u : U} {p : U × U} (e : tup2 u = some p) : u = .tup [p.1, p.2] := by
  unfold tup2 at e
  split at e
  · cases e; rfl
  · cases e
theorem tup3_some {u : U} {p : U × U × U} (e : tup3 u = some p) : u = .tup [p.1, p.2.1, p.2.2] := by
  unfold tup3 at e
  split at e
  · cases e; rfl
  · cases e
theorem setTg_2 {i j : Nat} {u : U} {ρ' : En} (e : setTg (.t2 i j) u ρ = some ρ') : ∃ a b, u = .tup [a, b] ∧ ρ' = (ρ.set i (.v a)).set j (.v b) := by
  simp only [setTg, Option.map_eq_some_iff] at e
  obtain ⟨p, e, rfl⟩ := e
  exact ⟨_, _, tup2_some e, rfl⟩
theorem setTg_3 {i j k : Nat} {u : U} {ρ' : En} (e : setTg (.t3 i j k) u ρ = some ρ') : ∃ a b c, u = .tup [a, b, c] ∧ ρ' = ((ρ.set i (.v a)).set j (.v b)).set k (.v c) := by
  simp only [setTg, Option.map_eq_some_iff] at e
  obtain ⟨p, e, rfl⟩ := e
  exact ⟨_, _, _, tup3_some e, rfl⟩
theorem tg_read {tg : Tg} {u : U} {v : V} {ρ' : En} {Q : L2.St → Hp → Prop} (rel : Rel K T μ J ρ S σ H) (r : RU K μ J u v) (e : setTg tg u ρ = some ρ')
    (h : ∀ σ', Rel K T μ J ρ' S σ' H → (∀ vs : List Nat, (∀ i ∈ tgS tg, i ∈ vs) → L2.wipe σ' vs = L2.wipe σ vs) → OwnK ρ σ ρ' σ' → Q σ' H) : gOf K tg v σ H Q := by
  cases tg with
  | n i =>
    simp only [setTg, Option.some.injEq] at e
    subst e
    exact h _ (rel.setV i r) (fun vs hv => wipe_set (hv i (by simp [tgS]))) (OwnK.refl.set i u v)
  | t2 i j =>
    obtain ⟨a, b, rfl, rfl⟩ := setTg_2 e
    cases r with
    | tup ht rs =>
      obtain ⟨x, y, rfl, r1, r2⟩ := rus2 rs
      refine ⟨_, _, rfl, rel.jh.sqT ht, rfl, x, [y], rfl, y, [], rfl, rfl, ?_⟩
      exact h _ ((rel.setV i r1).setV j r2) (fun vs hv => by rw [wipe_set (hv j (by simp [tgS])), wipe_set (hv i (by simp [tgS]))]) ((OwnK.refl.set i _ _).set j _ _)
  | t3 i j k =>
    obtain ⟨a, b, c, rfl, rfl⟩ := setTg_3 e
    cases r with
    | tup ht rs =>
      obtain ⟨x, y, z, rfl, r1, r2, r3⟩ := rus3 rs
      refine ⟨_, _, rfl, rel.jh.sqT ht, rfl, x, [y, z], rfl, y, [z], rfl, z, [], rfl, rfl, ?_⟩
      exact h _ (((rel.setV i r1).setV j r2).setV k r3) (fun vs hv => by rw [wipe_set (hv k (by simp [tgS])), wipe_set (hv j (by simp [tgS])), wipe_set (hv i (by simp [tgS]))]) (((OwnK.refl.set i _ _).set j _ _).set k _ _)
/-! ### what is walked -/
def ItOk (K : PySem.W.Frag) (T : List (Addr × Str)) (us : List U) (I : It) (μ0 : List Addr) (J0 : Hp) : Prop := ∀ μ J ρ S σ H, Rel K T μ J ρ S σ H → Sub J0 J → Pre μ0 μ →
  (∀ i u, us[i]? = some u → I.go i H ∧ ∀ x H', I.yld i H x H' → ∃ J', Step μ J H μ J' H' ∧ Rel K T μ J' ρ S σ H' ∧ RU K μ J' u x) ∧ ∀ i, us.length ≤ i → I.stop i H
abbrev RI (K : PySem.W.Frag) (T : List (Addr × Str)) : Hp → List Addr → Hp → Hp → List U → It → Prop := fun _ μ J _ us I => ItOk K T us I μ J
theorem stab_i : Stab (RI K T) := fun _ _ _ _ _ _ _ _ _ _ _ _ h => h
theorem it_list {us : List U} {vs : List V} {a : Addr} (h : SqL K J a vs) (r : RUs K μ J us vs) : ItOk K T us (Itl K a) μ J := fun μ' J' ρ S σ H rel sj pre => by
  have hq : SqL K H a vs := rel.jh.sqL (sj.sqL h)
  have r' := r.mono sj pre
  refine ⟨fun i u e => ?_, fun i hi => ⟨vs, hq, by rw [← r.length]; exact hi⟩⟩
  obtain ⟨v, hv, rv⟩ := r'.get e
  exact ⟨⟨vs, v, hq, hv⟩, fun x H' ⟨e1, e2⟩ => by
    subst e1
    have := e2 vs hq
    rw [hv] at this; cases this
    exact ⟨J', Step.refl _ _ _, rel, rv⟩⟩
theorem it_tup {us : List U} {vs : List V} {a : Addr} (h : SqT K J a vs) (r : RUs K μ J us vs) : ItOk K T us (Itt K a) μ J := fun μ' J' ρ S σ H rel sj pre => by
  have hq : SqT K H a vs := rel.jh.sqT (sj.sqT h)
  have r' := r.mono sj pre
  refine ⟨fun i u e => ?_, fun i hi => ⟨vs, hq, by rw [← r.length]; exact hi⟩⟩
  obtain ⟨v, hv, rv⟩ := r'.get e
  exact ⟨⟨vs, v, hq, hv⟩, fun x H' ⟨e1, e2⟩ => by
    subst e1
    have := e2 vs hq
    rw [hv] at this; cases this
    exact ⟨J', Step.refl _ _ _, rel, rv⟩⟩
theorem it_str {s : Str} : ItOk K T (signs s) (Its s) μ J := fun μ' J' ρ S σ H rel sj pre => by
  refine ⟨fun i u e => ?_, fun i hi => (show s.cps.size ≤ i by simpa [signs] using hi)⟩
  simp only [signs, List.getElem?_map, Option.map_eq_some_iff] at e
  obtain ⟨c, e, rfl⟩ := e
  rw [Array.getElem?_toList] at e
  have hi : i < s.cps.size := (Array.getElem?_eq_some_iff.mp e).1
  refine ⟨hi, fun x H' ⟨e1, c', e2, e3⟩ => ?_⟩
  subst e1 e3
  rw [e] at e2
  cases e2
  exact ⟨J', Step.refl _ _ _, rel, .str _⟩
theorem it_range {lo : Int} {n : Nat} : ItOk K T (rangeU lo n) (Itr lo n) μ J := fun μ' J' ρ S σ H rel sj pre => by
  refine ⟨fun i u e => ?_, fun i hi => (show n ≤ i by simpa [rangeU] using hi)⟩
  simp only [rangeU, List.getElem?_map, Option.map_eq_some_iff] at e
  obtain ⟨k, e, rfl⟩ := e
  obtain ⟨hk, e⟩ := List.getElem?_eq_some_iff.mp e
  have : k = i := by simpa using e.symm
  subst this
  refine ⟨(show k < n by simpa using hk), fun x H' ⟨e1, e2⟩ => ?_⟩
  subst e1 e2
  exact ⟨J', Step.refl _ _ _, rel, .int _⟩
end
section
variable {X : Cx} {T : List (Addr × Str)} {ec : Str → Addr} {W : WX}
variable {μ μ1 : List Addr} {J J1 H H1 : Hp} {ρ : En} {S : Sto} {σ : L2.St}
variable {a b : Expr} {ma mb : En → Sto → UM U} {pos : Pos} {tg : Expr}
theorem fin_i {us : List U} {I : It} {Q : It → Hp → Prop} (rel : Rel X.K T μ J ρ S σ H) (h : Fin' X.K T ec W (RI X.K T) μ J ρ σ H (pureO us S) Q) (r : ItOk X.K T us I μ J) : Q I H := h I μ J H (Step.refl _ _ _) rel r
theorem ri_seq (ha : PE X a (EV X T ec W ma)) : PI X tg a (TX X.K T ec W (RI X.K T) fun ρ S => bindO (ma ρ S) seqM) := by
  refine pi_imp (pi_alt (pi_list ha) (pi_alt (pi_tup ha) (pi_str ha))) fun σ H R ⟨ρ, S, μ, J, rel, h⟩ => ?_
  -- which of both: by the value that comes
  match e : ma ρ S, h with
  | none, h =>
    have h : Fin' X.K T ec W (RI X.K T) μ J ρ σ H (bindO (ma ρ S) seqM) R := h
    rw [e] at h; exact h.elim
  | some (.err c, S'), h =>
    have h : Fin' X.K T ec W (RI X.K T) μ J ρ σ H (bindO (ma ρ S) seqM) R := h
    refine .inl ⟨ρ, S, μ, J, rel, ?_⟩
    rw [e] at h ⊢
    exact h
  | some (.ok (.tup us), S'), h =>
    have h : Fin' X.K T ec W (RI X.K T) μ J ρ σ H (bindO (ma ρ S) seqM) R := h
    refine .inr (.inl ⟨ρ, S, μ, J, rel, ?_⟩)
    rw [e] at h ⊢
    intro v μ' J' H' st rel' r
    cases r with
    | tup ht rs => exact ⟨_, rfl, ⟨_, rel'.jh.sqT ht⟩, h _ μ' J' H' st rel' (it_tup ht rs)⟩
  | some (.ok (.lst us), S'), h =>
    have h : Fin' X.K T ec W (RI X.K T) μ J ρ σ H (bindO (ma ρ S) seqM) R := h
    refine .inl ⟨ρ, S, μ, J, rel, ?_⟩
    rw [e] at h ⊢
    intro v μ' J' H' st rel' r
    cases r with
    | lst ht rs => exact ⟨_, rfl, ⟨_, SqL.of (rel'.jh _ _ ht)⟩, h _ μ' J' H' st rel' (it_list (SqL.of ht) rs)⟩
  | some (.ok (.fz us), S'), h =>
    have h : Fin' X.K T ec W (RI X.K T) μ J ρ σ H (bindO (ma ρ S) seqM) R := h
    refine .inl ⟨ρ, S, μ, J, rel, ?_⟩
    rw [e] at h ⊢
    intro v μ' J' H' st rel' r
    cases r with
    | fz ht rs => exact ⟨_, rfl, ⟨_, rel'.jh.sqL ht⟩, h _ μ' J' H' st rel' (it_list ht rs)⟩
  | some (.ok (.str s), S'), h =>
    have h : Fin' X.K T ec W (RI X.K T) μ J ρ σ H (bindO (ma ρ S) seqM) R := h
    refine .inr (.inr ⟨ρ, S, μ, J, rel, ?_⟩)
    rw [e] at h ⊢
    intro v μ' J' H' st rel' r
    cases r
    exact ⟨s, rfl, h _ μ' J' H' st rel' it_str⟩
  | some (.ok .non, S'), h | some (.ok (.bl _), S'), h | some (.ok (.int _), S'), h | some (.ok .emp, S'), h | some (.ok (.ref _), S'), h =>
    have h : Fin' X.K T ec W (RI X.K T) μ J ρ σ H (bindO (ma ρ S) seqM) R := h
    rw [e] at h; exact h.elim
def rangeM (u : U) (S : Sto) : UM (List U) := match u with
    | .int i => if -1000000 ≤ i ∧ i ≤ 1000000 then pureO (rangeU 0 i.toNat) S else none
    | _ => none
theorem ri_range {p : Pos} (hg : Gl X "range") (hm : X.mg "range" = none) (he : starEach [a] X.env = [(false, eval a X.env)]) (ha : PE X a (EV X T ec W ma)) :
    PI X tg (.Call (.Name "range" p) [a] [] pos) (TX X.K T ec W (RI X.K T) fun ρ S => bindO (ma ρ S) rangeM) := by
  have he0 : starEach ([] : List Expr) X.env = [] := rfl
  refine pi_imp (pi_alt (pi_range1 (tg := tg) hg hm (pa_cons ha pa_nil (by rw [he, he0])) he) (pi_range1 (tg := tg) hg hm (pa_cons ha pa_nil (by rw [he, he0])) he)) fun σ H R ⟨ρ, S, μ, J, rel, h⟩ => .inl ?_
  refine tx_mono (tx_bind stab_i rel h) fun x H1 ⟨u, S1, μ1, J1, st, rel1, ru, h1⟩ => ?_
  match u, ru, h1 with
  | .int i, ru, h1 =>
    rw [ru_int ru]
    by_cases c : -1000000 ≤ i ∧ i ≤ 1000000
    · simp only [rangeM, if_pos c] at h1
      exact ⟨i, rfl, by omega, by omega, fin_i rel1 h1 it_range⟩
    · simp only [rangeM, if_neg c] at h1
      exact h1.elim
  | .non, _, h1 | .bl _, _, h1 | .str _, _, h1 | .tup _, _, h1 | .lst _, _, h1 | .fz _, _, h1 | .emp, _, h1 | .ref _, _, h1 => exact h1.elim
end
end Wy
end
section
set_option maxRecDepth 100000
set_option maxHeartbeats 2000000
namespace Wy
open PySem PySem.Spec PyProof.Rows L2
section
variable {K : PySem.W.Frag} {T : List (Addr × Str)} {μ μ1 : List Addr} {J J1 H H1 : Hp} {ρ : En} {S : Sto} {σ : L2.St}
theorem Rel.touch {D : Addr} {vs ws : List V} (rel : Rel K T μ J ρ S σ H) (hD : H D = some (.lst vs)) (hJ : J D = none) (hm : D ∉ μ) (ho : ∀ (i : Nat) (us : List U), ρ[i]? = some (Slot.own us) → σ[i]? ≠ some (some (V.ref D))) :
    Rel K T μ J ρ S σ (upd H D (.lst ws)) := by
  refine ⟨rel.len, fun b o e => ?_, rel.ml, rel.mn, fun r us a e1 e2 => ?_, fun i s o e1 e2 => ?_, rel.inj, tabs_upd rel.tab hD, rel.jt⟩
  · have : b ≠ D := fun q => by subst q; rw [hJ] at e; cases e
    rw [upd_ne this]; exact rel.jh _ _ e
  · obtain ⟨xs, h1, h2, h3⟩ := rel.st r us a e1 e2
    have : a ≠ D := fun q => hm (q ▸ List.mem_of_getElem? e2)
    exact ⟨xs, by rw [upd_ne this]; exact h1, h2, h3⟩
  · have r := rel.sl i s o e1 e2
    cases s with
    | nil => trivial
    | v u => exact r
    | own us =>
      obtain ⟨a, xs, e, h1, h2, h3, h4⟩ := r
      have : a ≠ D := fun q => ho i us e1 (by rw [e2, e, q])
      exact ⟨a, xs, e, by rw [upd_ne this]; exact h1, h2, h3, h4⟩
theorem Step.touch {D : Addr} {vs ws : List V} (st : Step μ J H μ1 J1 H1) (hD : Fr0 H D) : Step μ J H μ1 J1 (upd H1 D (.lst ws)) := by
  refine ⟨st.pre, st.jj, st.jn, fun b o h n nt => ?_, fun b h => ?_⟩
  · rw [upd_ne (fun z => by subst z; exact Fr0.no h nt hD)]; exact st.fr b o h n nt
  · by_cases q : b = D
    · subst q; exact hD
    · exact st.th b fun o e => h o (by rw [upd_ne q]; exact e)
theorem compL_noerr {ev : U → Sto → UM (Option U)} : ∀ {us : List U} {S S' : Sto} {c : Str}, compL ev us S ≠ some (.err c, S')
  | [], S, S', c, h => by simp [compL, pureO] at h
  | x :: xs, S, S', c, h => by
    unfold compL at h
    split at h
    · split at h <;> simp at h
    · cases h
theorem compL_cons {ev : U → Sto → UM (Option U)} {x : U} {xs : List U} {S Sn : Sto} {rs : List U} (h : compL ev (x :: xs) S = some (.ok rs, Sn)) :
    ∃ o S1 r, ev x S = some (.ok o, S1) ∧ compL ev xs S1 = some (.ok r, Sn) ∧ rs = (match o with | some u => u :: r | none => r) := by
  unfold compL at h
  split at h
  · rename_i o S1 e1
    split at h
    · rename_i r S2 e2
      simp only [Option.some.injEq, Prod.mk.injEq, Out.ok.injEq] at h
      obtain ⟨h1, h2⟩ := h
      subst h2
      exact ⟨o, S1, r, e1, e2, h1.symm⟩
    · cases h
  · cases h
end
abbrev W0 : WX := fun _ _ _ _ => False
section
variable {X : Cx} {T : List (Addr × Str)} {ec : Str → Addr} {W : WX}
variable {μ μ1 : List Addr} {J J1 H H1 : Hp} {ρ : En} {S : Sto} {σ : L2.St}
def compEv (tg : Tg) (vs : List Nat) (mt : En → Sto → UM Bool) (me : En → Sto → UM U) (ρ : En) : U → Sto → UM (Option U) := fun x S => match setTg tg x (wipeU ρ vs) with
    | none => none
    | some ρ' => bindO (mt ρ' S) fun b S => if b = true then bindO (me ρ' S) fun u S => pureO (some u) S else pureO none S
theorem comp_read {K : PySem.W.Frag} {tg : Tg} {vs : List Nat} {mi : En → Sto → UM (List U)} {mt : En → Sto → UM Bool} {me : En → Sto → UM U} (hT : ∀ i ∈ tgS tg, i ∈ vs) (σ : L2.St) (H : Hp) (Q : VK)
    (h : TX K T ec W (RF K) (fun ρ S => bindO (mi ρ S) fun xs S => if xs.length ≤ line then compL (compEv tg vs mt me ρ) xs S else none) σ H Q) :
    tLc (TX K T ec W (RI K T) mi) (gOf K tg) (TX K T ec W0 RBB mt) (TX K T ec W0 (RV K) me) vs σ H Q := by
  obtain ⟨ρ, S, μ, J, rel, h⟩ := h
  refine tx_mono (tx_bind stab_f rel h) fun I H1 ⟨us, S1, μ1, J1, st, rel1, iok, h1⟩ => ?_
  by_cases hl : us.length ≤ line
  case neg => rw [if_neg hl] at h1; exact h1.elim
  rw [if_pos hl] at h1
  intro D hD
  generalize hev : compEv tg vs mt me ρ = ev at h1
  match e : compL ev us S1, h1 with
  | none, h1 => exact h1.elim
  | some (.err c, Sn), _ => exact absurd e compL_noerr
  | some (.ok rs, Sn), h1 =>
    obtain ⟨st0, rel0, hJ0, hm0⟩ := rel1.tmp (o := .lst []) hD
    refine ⟨fun i m H => m = us.length - i ∧ i ≤ us.length ∧ ∃ S' μ' J' acc accU rest, Step μ1 J1 H1 μ' J' H ∧ Rel K T μ' J' ρ S' σ H ∧ H D = some (.lst acc) ∧ J' D = none ∧ D ∉ μ' ∧ RUs K μ' J' accU acc ∧ acc.length ≤ i ∧ compL ev (us.drop i) S' = some (.ok rest, Sn) ∧ accU ++ rest = rs,
      ⟨us.length, by simp, Nat.zero_le _, S1, μ1, J1, [], [], rs, st0, rel0, upd_same, hJ0, hm0, .nil, Nat.le_refl _, by simpa using e, rfl⟩, ?_⟩
    rintro i m H2 ⟨rfl, hi2, S', μ', J', acc, accU, rest, st2, rel2, hD2, hJ2, hm2, racc, hacc, e2, hrs⟩
    have iok2 := iok μ' J' ρ S' σ H2 rel2 st2.jj st2.ext
    by_cases hlt : i < us.length
    · right
      have hu : us[i]? = some us[i] := by simp [hlt]
      obtain ⟨go, yl⟩ := iok2.1 i _ hu
      refine ⟨go, fun H' => i + 1 ≤ us.length ∧ ∃ S' μ' J' acc accU rest, Step μ1 J1 H1 μ' J' H' ∧ Rel K T μ' J' ρ S' σ H' ∧ H' D = some (.lst acc) ∧ J' D = none ∧ D ∉ μ' ∧ RUs K μ' J' accU acc ∧ acc.length ≤ i + 1 ∧ compL ev (us.drop (i + 1)) S' = some (.ok rest, Sn) ∧ accU ++ rest = rs,
        fun H' h' => ⟨us.length - (i + 1), by omega, rfl, h'⟩, fun x H' hy => ?_⟩
      obtain ⟨J3, st3, rel3, ru3⟩ := yl x H' hy
      rw [List.drop_eq_getElem_cons hlt] at e2
      obtain ⟨o, S4, r4, ev4, e4, er4⟩ := compL_cons e2
      have st13 := st2.trans st3
      rw [← hev] at ev4
      unfold compEv at ev4
      split at ev4
      · cases ev4
      · rename_i ρ2 et
        refine tg_read (rel3.wipe vs) ru3 et fun σ2 rel5 hw _ => ⟨by rw [hw _ hT, wipe_idem], ?_⟩
        refine ⟨ρ2, S', μ', J3, rel5, ?_⟩
        match em : mt ρ2 S', ev4 with
        | none, ev4 => cases ev4
        | some (.err c, S6), ev4 => cases ev4
        | some (.ok b, S6), ev4 =>
          intro b' μ7 J7 H7 st7 rel7 eb
          have eb : b = b' := eb
          subst eb
          have ev4 : (if b = true then bindO (me ρ2 S6) fun u S => pureO (some u) S else pureO none S6) = some (.ok o, S4) := ev4
          cases b with
          | false =>
            rw [if_neg Bool.false_ne_true] at ev4 ⊢
            simp only [pureO, Option.some.injEq, Prod.mk.injEq, Out.ok.injEq] at ev4
            obtain ⟨rfl, rfl⟩ := ev4
            obtain ⟨k1, k2, k3⟩ := (st3.trans st7).keep hD2 hJ2 hm2
            refine ⟨hlt, S6, μ7, J7, acc, accU, r4, st13.trans st7, rel2.after (st3.trans st7) rel7.forget, k1, k2, k3, (st3.trans st7).rus racc, by omega, e4, by rw [← hrs, er4]⟩
          | true =>
            rw [if_pos rfl] at ev4 ⊢
            refine ⟨ρ2, S6, μ7, J7, rel7, ?_⟩
            match em2 : me ρ2 S6, ev4 with
            | none, ev4 => cases ev4
            | some (.err c, S8), ev4 => cases ev4
            | some (.ok u8, S8), ev4 =>
              have ev4 : pureO (some u8) S8 = some (.ok o, S4) := ev4
              simp only [pureO, Option.some.injEq, Prod.mk.injEq, Out.ok.injEq] at ev4
              obtain ⟨rfl, rfl⟩ := ev4
              intro v μ9 J9 H9 st9 rel9 rv
              have st29 := (st3.trans st7).trans st9
              obtain ⟨k1, k2, k3⟩ := st29.keep hD2 hJ2 hm2
              refine ⟨acc, k1, Nat.lt_of_lt_of_le (Nat.lt_of_le_of_lt hacc hlt) (Nat.le_trans hl line_le), ?_⟩
              have rel10 := rel2.after st29 rel9.forget
              have rel11 := rel10.touch (ws := acc ++ [v]) k1 k2 k3 (fun j ws e1 => rel1.notOwn (Fr0.of hD) j ws e1)
              refine ⟨hlt, S8, μ9, J9, acc ++ [v], accU ++ [u8], r4, (st2.trans st29).touch (vs := acc) (Fr0.of hD), rel11, upd_same, k2, k3, (st29.rus racc).append (.cons rv .nil), ?_, e4, ?_⟩
              · rw [List.length_append]; simp; omega
              · rw [← hrs, er4]; simp
    · left
      have hi3 : i = us.length := by omega
      subst hi3
      refine ⟨iok2.2 _ (Nat.le_refl _), ?_⟩
      rw [List.drop_length] at e2
      simp only [compL, pureO, Option.some.injEq, Prod.mk.injEq, Out.ok.injEq] at e2
      obtain ⟨rfl, rfl⟩ := e2
      rw [List.append_nil] at hrs
      subst hrs
      exact h1 (.ref D) μ' J' H2 st2 rel2 ⟨D, acc, rfl, Fr0.of hD, hD2, hJ2, hm2, racc⟩
theorem r_comp {elt tgE iter : Expr} {ifs : List Expr} {scope : Scope} {own : List (Str × Nat)} {pos : Pos} {tg : Tg} {mi : En → Sto → UM (List U)} {mt : En → Sto → UM Bool} {me : En → Sto → UM U}
    (hc : X.calm = true) (hN : X.N.Nodup) (hi : PI X tgE iter (TX X.K T ec W (RI X.K T) mi)) (ok : BlkOk X.N X.env.scope scope own)
    (hg : ∀ (s : Shared) (H : Hp) (C : Addr) (cl : List (Str × Addr)) (fp : List Addr), PG (X.blk s H scope (compEnvC scope cl C X.env) fp) tgE (gOf X.K tg))
    (hT : ∀ i ∈ tgS tg, i ∈ own.map (·.2))
    (ht : ∀ (s : Shared) (H : Hp) (C : Addr) (cl : List (Str × Addr)) (fp : List Addr), PTs (X.blk s H scope (compEnvC scope cl C X.env) fp) ifs (TX X.K T ec W0 RBB mt))
    (he : ∀ (s : Shared) (H : Hp) (C : Addr) (cl : List (Str × Addr)) (fp : List Addr), PE (X.blk s H scope (compEnvC scope cl C X.env) fp) elt (TX X.K T ec W0 (RV X.K) me))
    (hs : ∀ x, foldedSetIterable iter X.env x = pure x) :
    PE X (.ListComp elt [⟨tgE, iter, ifs, 0⟩] scope pos) (TX X.K T ec W (RF X.K) fun ρ S => bindO (mi ρ S) fun xs S => if xs.length ≤ line then compL (compEv tg (own.map (·.2)) mt me ρ) xs S else none) :=
  pe_imp (pe_lc hc hN hi ok hg ht he hs) (comp_read hT)
end
end Wy
end
section
set_option maxRecDepth 100000
set_option maxHeartbeats 2000000
namespace Wy
open PySem PySem.Spec PyProof.Rows L2
/-- the state at a def's entry -/
structure Bs where
  μ : List Addr
  J : Hp
  H : Hp
section
variable (K : PySem.W.Frag) (T : List (Addr × Str)) (ec : Str → Addr) (W : WX) (B : Bs)
structure RS (μ : List Addr) (J : Hp) (ρ : En) (S : Sto) (σ : L2.St) (H : Hp) : Prop where
  rel : Rel K T μ J ρ S σ H
  st : Step B.μ B.J B.H μ J H
  own : ∀ (i : Nat) (us : List U) (p : Addr), ρ[i]? = some (.own us) → σ[i]? = some (some (.ref p)) → Fr0 B.H p
def FinS (μ : List Addr) (J : Hp) (r : SM) (D : Ends) : Prop := match r with
  | none => False
  | some (.nx ρ', S') => ∀ σ' μ' J' H', RS K T B μ' J' ρ' S' σ' H' → Pre μ μ' → Sub J J' → D.nx σ' H'
  | some (.brk ρ', S') => ∀ σ' μ' J' H', RS K T B μ' J' ρ' S' σ' H' → Pre μ μ' → Sub J J' → D.bk σ' H'
  | some (.cnt ρ', S') => ∀ σ' μ' J' H', RS K T B μ' J' ρ' S' σ' H' → Pre μ μ' → Sub J J' → D.ct σ' H'
  | some (.ret u, S') => ∀ v μ' J' H', Rel K T μ' J' [] S' [] H' → Step B.μ B.J B.H μ' J' H' → RU K μ' J' u v → D.rt v H'
  | some (.err c, S') => ∀ σ' μ' J' H', Rel K T μ' J' [] S' [] H' → Step B.μ B.J B.H μ' J' H' → W (.ref (ec c)) none σ' H'
def TSX (m : En → Sto → SM) : TS := fun D σ H => ∃ ρ S μ J, RS K T B μ J ρ S σ H ∧ FinS K T ec W B μ J (m ρ S) D
end
section
variable {K : PySem.W.Frag} {T : List (Addr × Str)} {ec : Str → Addr} {W : WX} {B : Bs}
variable {μ μ1 : List Addr} {J J1 H H1 : Hp} {ρ : En} {S S1 : Sto} {σ : L2.St} {D D' : Ends}
theorem Pre.refl (μ : List Addr) : Pre μ μ := fun _ _ h => h
theorem Pre.trans {a b c : List Addr} (h : Pre a b) (k : Pre b c) : Pre a c := fun r x e => k r x (h r x e)
theorem finS_later (p : Pre μ μ1) (s : Sub J J1) {r : SM} (h : FinS K T ec W B μ J r D) : FinS K T ec W B μ1 J1 r D := by
  match r, h with
  | none, h => exact h
  | some (.nx _, _), h => exact fun σ' μ' J' H' q p' s' => h σ' μ' J' H' q (p.trans p') (s.trans s')
  | some (.brk _, _), h => exact fun σ' μ' J' H' q p' s' => h σ' μ' J' H' q (p.trans p') (s.trans s')
  | some (.cnt _, _), h => exact fun σ' μ' J' H' q p' s' => h σ' μ' J' H' q (p.trans p') (s.trans s')
  | some (.ret _, _), h => exact h
  | some (.err _, _), h => exact h
theorem RS.step {S' : Sto} (r : RS K T B μ J ρ S σ H) (st : Step μ J H μ1 J1 H1) (rel : Rel K T μ1 J1 ρ S' σ H1) : RS K T B μ1 J1 ρ S' σ H1 := ⟨rel, r.st.trans st, r.own⟩
theorem RS.setV (r : RS K T B μ J ρ S σ H) (i : Nat) {u : U} {v : V} (h : RU K μ J u v) : RS K T B μ J (ρ.set i (.v u)) S (σ.set i (some v)) H := by
  refine ⟨r.rel.setV i h, r.st, fun j us p e1 e2 => ?_⟩
  by_cases q : i = j
  · subst q
    have hi : i < ρ.length := by
      have := (List.getElem?_eq_some_iff.mp e1).1
      simpa using this
    rw [List.getElem?_set_self hi] at e1; cases e1
  · rw [List.getElem?_set_ne q] at e1 e2
    exact r.own j us p e1 e2
/-- an expression first -/
theorem tx_stmt {α β : Type} {R : Hp → List Addr → Hp → Hp → α → β → Prop} {m : En → Sto → UM α} {f : α → Sto → SM} (r : RS K T B μ J ρ S σ H) (h : FinS K T ec W B μ J (bindE (m ρ S) f) D) :
    TX K T ec W R m σ H (fun v H1 => ∃ u S1 μ1 J1, RS K T B μ1 J1 ρ S1 σ H1 ∧ Step μ J H μ1 J1 H1 ∧ R H μ1 J1 H1 u v ∧ FinS K T ec W B μ1 J1 (f u S1) D) := by
  refine ⟨ρ, S, μ, J, r.rel, ?_⟩
  match e : m ρ S, h with
  | none, h => exact h
  | some (.err c, S'), h => exact fun μ' J' H' st rel => h σ μ' J' H' rel.forget (r.st.trans st)
  | some (.ok u, S'), h => exact fun v μ' J' H' st rel x => ⟨u, S', μ', J', r.step st rel, st, x, finS_later st.ext st.jj h⟩
theorem tst_stmt {m : En → Sto → UM U} {f : U → Sto → SM} (r : RS K T B μ J ρ S σ H) (hf : ∀ u S, asB u = none → f u S = none) (h : FinS K T ec W B μ J (bindE (m ρ S) f) D) :
    TX K T ec W RBB (tst m) σ H (fun c H1 => ∃ S1 μ1 J1, RS K T B μ1 J1 ρ S1 σ H1 ∧ Step μ J H μ1 J1 H1 ∧ FinS K T ec W B μ1 J1 (f (.bl c) S1) D) := by
  refine ⟨ρ, S, μ, J, r.rel, ?_⟩
  show Fin' K T ec W RBB μ J ρ σ H (bindO (m ρ S) fun u S => optO (asB u) S) _
  match e : m ρ S, h with
  | none, h => exact h
  | some (.err c, S'), h => exact fun μ' J' H' st rel => h σ μ' J' H' rel.forget (r.st.trans st)
  | some (.ok (.bl b), S'), h =>
    intro v μ' J' H' st q x
    have x : b = v := x
    subst x
    exact ⟨S', μ', J', r.step st q, st, finS_later st.ext st.jj h⟩
  | some (.ok .non, S'), h | some (.ok (.int _), S'), h | some (.ok (.str _), S'), h | some (.ok (.tup _), S'), h | some (.ok (.lst _), S'), h | some (.ok (.fz _), S'), h | some (.ok .emp, S'), h | some (.ok (.ref _), S'), h =>
    have h2 : FinS K T ec W B μ J (f _ S') D := h
    rw [hf _ _ rfl] at h2
    exact h2.elim
theorem fin_nx (r : RS K T B μ J ρ S σ H) (h : FinS K T ec W B μ J (nxS ρ S) D) : D.nx σ H := h σ μ J H r (Pre.refl _) (Sub.refl _)
theorem fin_nx2 (r : RS K T B μ1 J1 ρ S σ H) (p : Pre μ μ1) (s : Sub J J1) (h : FinS K T ec W B μ J (nxS ρ S) D) : D.nx σ H := h σ μ1 J1 H r p s
/-- a list of one's own -/
theorem RS.setOwn {i : Nat} {us : List U} {vs : List V} {p : Addr} (r : RS K T B μ J ρ S σ H) (hp : H p = some (.lst vs)) (hJ : J p = none) (hm : p ∉ μ) (hB : Fr0 B.H p) (hn : ∀ (j : Nat) (ws : List U), ρ[j]? = some (Slot.own ws) → σ[j]? ≠ some (some (V.ref p))) (ru : RUs K μ J us vs) :
    RS K T B μ J (ρ.set i (.own us)) S (σ.set i (some (.ref p))) H := by
  have lt : ∀ {j : Nat} {s : Slot}, (ρ.set i (.own us))[j]? = some s → j < ρ.length := fun e => by
    have := (List.getElem?_eq_some_iff.mp e).1
    simpa using this
  refine ⟨⟨by simp [r.rel.len], r.rel.jh, r.rel.ml, r.rel.mn, r.rel.st, fun j s o e1 e2 => ?_, fun j k us' ws q e1 e2 e3 e4 => ?_, r.rel.tab, r.rel.jt⟩, r.st, fun j us' q e1 e2 => ?_⟩
  · by_cases z : i = j
    · subst z
      have hi := lt e1
      have hj : i < σ.length := by rw [← r.rel.len]; exact hi
      rw [List.getElem?_set_self hi] at e1
      rw [List.getElem?_set_self hj] at e2
      cases e1; cases e2
      exact ⟨p, vs, rfl, hp, hJ, hm, ru⟩
    · rw [List.getElem?_set_ne z] at e1 e2
      exact r.rel.sl j s o e1 e2
  · by_cases z : i = j
    · subst z
      have hi := lt e1
      have hj : i < σ.length := by rw [← r.rel.len]; exact hi
      rw [List.getElem?_set_self hj] at e3
      cases e3
      by_cases z2 : i = k
      · exact z2
      · rw [List.getElem?_set_ne z2] at e2 e4
        exact absurd e4 (hn k ws e2)
    · rw [List.getElem?_set_ne z] at e1 e3
      by_cases z2 : i = k
      · subst z2
        have hi := lt e2
        have hj : i < σ.length := by rw [← r.rel.len]; exact hi
        rw [List.getElem?_set_self hj] at e4
        cases e4
        exact absurd e3 (hn j us' e1)
      · rw [List.getElem?_set_ne z2] at e2 e4
        exact r.rel.inj j k us' ws q e1 e2 e3 e4
  · by_cases z : i = j
    · subst z
      have hi := lt e1
      have hj : i < σ.length := by rw [← r.rel.len]; exact hi
      rw [List.getElem?_set_self hj] at e2
      cases e2
      exact hB
    · rw [List.getElem?_set_ne z] at e1 e2
      exact r.own j us' q e1 e2
/-- an own list changed in its place -/
theorem RS.chg {i : Nat} {us ws : List U} {vs xs : List V} {p : Addr} (r : RS K T B μ J ρ S σ H) (ei : ρ[i]? = some (.own us)) (es : σ[i]? = some (some (.ref p))) (hp : H p = some (.lst vs)) (ru : RUs K μ J ws xs) :
    RS K T B μ J (ρ.set i (.own ws)) S σ (upd H p (.lst xs)) := by
  obtain ⟨q, vs', e, h1, h2, h3, h4⟩ := r.rel.sl i _ _ ei es
  cases e
  have hB := r.own i us p ei es
  have hi : i < ρ.length := (List.getElem?_eq_some_iff.mp ei).1
  refine ⟨⟨by simp [r.rel.len], fun b o e => ?_, r.rel.ml, r.rel.mn, fun k us' a e1 e2 => ?_, fun j s o e1 e2 => ?_, fun j k us' ws' q e1 e2 e3 e4 => ?_, tabs_upd r.rel.tab hp, r.rel.jt⟩, r.st.touch (vs := vs) hB, fun j us' q e1 e2 => ?_⟩
  · have : b ≠ p := fun z => by subst z; rw [h2] at e; cases e
    rw [upd_ne this]; exact r.rel.jh _ _ e
  · obtain ⟨ys, k1, k2, k3⟩ := r.rel.st k us' a e1 e2
    have : a ≠ p := fun z => h3 (z ▸ List.mem_of_getElem? e2)
    exact ⟨ys, by rw [upd_ne this]; exact k1, k2, k3⟩
  · by_cases z : i = j
    · subst z
      rw [List.getElem?_set_self hi] at e1
      cases e1
      rw [es] at e2; cases e2
      exact ⟨p, xs, rfl, upd_same, h2, h3, ru⟩
    · rw [List.getElem?_set_ne z] at e1
      have q := r.rel.sl j s o e1 e2
      cases s with
      | nil => trivial
      | v u => exact q
      | own us' =>
        obtain ⟨a, ys, e, k1, k2, k3, k4⟩ := q
        subst e
        have : a ≠ p := fun y => by subst y; exact z (r.rel.inj i j us us' a ei e1 es e2)
        exact ⟨a, ys, rfl, by rw [upd_ne this]; exact k1, k2, k3, k4⟩
  · have old : ∀ {j : Nat} {us' : List U}, (ρ.set i (.own ws))[j]? = some (.own us') → ∃ us'', ρ[j]? = some (.own us'') := fun {j us'} e => by
      by_cases z : i = j
      · subst z; exact ⟨us, ei⟩
      · rw [List.getElem?_set_ne z] at e; exact ⟨us', e⟩
    obtain ⟨_, f1⟩ := old e1
    obtain ⟨_, f2⟩ := old e2
    exact r.rel.inj j k _ _ q f1 f2 e3 e4
  · by_cases z : i = j
    · subst z
      rw [es] at e2; cases e2
      exact hB
    · rw [List.getElem?_set_ne z] at e1
      exact r.own j us' q e1 e2
theorem B_none (r : RS K T B μ J ρ S σ H) {p : Addr} (h : Fr0 H p) : Fr0 B.H p := r.st.th p h
end
section
variable {X : Cx} {T : List (Addr × Str)} {ec : Str → Addr} {W : WX} {B : Bs}
variable {st : Stmt} {rest : List Stmt} {e a b : Expr} {pos : Pos} {ma mb : En → Sto → UM U} {m1 m2 : En → Sto → SM}
abbrev SV (X : Cx) (T : List (Addr × Str)) (ec : Str → Addr) (W : WX) (B : Bs) (m : En → Sto → SM) : TS := TSX X.K T ec W B m
def seqS (m1 m2 : En → Sto → SM) : En → Sto → SM := fun ρ S => match m1 ρ S with
    | some (.nx ρ', S') => m2 ρ' S'
    | r => r
theorem rs_nil : PSs X [] (SV X T ec W B nxS) := pss_imp pss_nil fun D σ H ⟨ρ, S, μ, J, r, h⟩ => fin_nx r h
theorem rs_cons (h1 : PS X st (SV X T ec W B m1)) (h2 : PSs X rest (SV X T ec W B m2)) : PSs X (st :: rest) (SV X T ec W B (seqS m1 m2)) :=
  pss_imp (pss_cons h1 h2) fun D σ H ⟨ρ, S, μ, J, r, h⟩ => by
    refine ⟨ρ, S, μ, J, r, ?_⟩
    unfold seqS at h
    match e : m1 ρ S, h with
    | none, h => exact h
    | some (.nx ρ', S'), h => exact fun σ' μ' J' H' q p s => ⟨ρ', S', μ', J', q, finS_later p s h⟩
    | some (.brk _, _), h => exact h
    | some (.cnt _, _), h => exact h
    | some (.ret _, _), h => exact h
    | some (.err _, _), h => exact h
/-! ### small statements -/
theorem rs_pass : PS X (.Pass pos) (SV X T ec W B nxS) := ps_imp ps_pass fun D σ H ⟨ρ, S, μ, J, r, h⟩ => fin_nx r h
theorem rs_brk : PS X (.Break pos) (SV X T ec W B fun ρ S => some (.brk ρ, S)) := ps_imp ps_break fun D σ H ⟨ρ, S, μ, J, r, h⟩ => h σ μ J H r (Pre.refl _) (Sub.refl _)
theorem rs_cnt : PS X (.Continue pos) (SV X T ec W B fun ρ S => some (.cnt ρ, S)) := ps_imp ps_continue fun D σ H ⟨ρ, S, μ, J, r, h⟩ => h σ μ J H r (Pre.refl _) (Sub.refl _)
theorem rs_ret (ha : PE X a (EV X T ec W ma)) : PS X (.Return (some a) pos) (SV X T ec W B fun ρ S => bindE (ma ρ S) fun u S => some (.ret u, S)) :=
  ps_imp (ps_ret ha) fun D σ H ⟨ρ, S, μ, J, r, h⟩ => by
    refine tx_mono (tx_stmt r h) fun v H1 ⟨u, S1, μ1, J1, r1, st, ru, h1⟩ => ?_
    exact h1 v μ1 J1 H1 r1.rel.forget r1.st ru
theorem rs_exp (hs : swapsWith a none pos.line X.env = pure false) (ha : PE X a (EV X T ec W ma)) : PS X (.Expr a pos) (SV X T ec W B fun ρ S => bindE (ma ρ S) fun _ S => nxS ρ S) :=
  ps_imp (ps_expr ha hs) fun D σ H ⟨ρ, S, μ, J, r, h⟩ => by
    refine tx_mono (tx_stmt r h) fun v H1 ⟨u, S1, μ1, J1, r1, st, ru, h1⟩ => ?_
    exact fin_nx r1 h1
theorem rs_ite {c : Expr} {b1 b2 : List Stmt} {mc : En → Sto → UM U} (hc : PT X c (TV X T ec W mc)) (h1 : PSs X b1 (SV X T ec W B m1)) (h2 : PSs X b2 (SV X T ec W B m2)) :
    PS X (.If c b1 b2 pos) (SV X T ec W B fun ρ S => bindE (mc ρ S) fun u S => match asB u with
    | some true => m1 ρ S
    | some false => m2 ρ S
    | none => none) :=
  ps_imp (ps_if hc h1 h2) fun D σ H ⟨ρ, S, μ, J, r, h⟩ => by
    refine tx_mono (tst_stmt r (fun u S e => by rw [e]) h) fun c H1 ⟨S1, μ1, J1, r1, st, h1⟩ => ?_
    cases c with
    | true => exact iteT ⟨ρ, S1, μ1, J1, r1, h1⟩
    | false => exact iteF ⟨ρ, S1, μ1, J1, r1, h1⟩
/-! ### stores -/
section
variable {i : Nat} {x : Str} {pos' : Pos}
theorem rs_asg (hN : X.N.Nodup) (hi : X.N[i]? = some x) (hx : Loc X.env.scope x) (hs : swapsWith a (some (.Name x pos')) pos.line X.env = pure false) (hf : X.fn x = true ∨ X.env.scope.names.lookup x = some .local) (ha : PE X a (EV X T ec W ma)) :
    PS X (.Assign [.Name x pos'] a pos) (SV X T ec W B fun ρ S => bindE (ma ρ S) fun u S => nxS (ρ.set i (.v u)) S) :=
  ps_imp (ps_set hN hi hx ha hs hf) fun D σ H ⟨ρ, S, μ, J, r, h⟩ => by
    refine tx_mono (tx_stmt r h) fun v H1 ⟨u, S1, μ1, J1, r1, st, ru, h1⟩ => ?_
    exact fin_nx (r1.setV i ru) h1
theorem own_fin {m : En → Sto → UM (List U)} {D : Ends} {σ : L2.St} {H : Hp} (h : SV X T ec W B (fun ρ S => bindE (m ρ S) fun us S => nxS (ρ.set i (.own us)) S) D σ H) : TX X.K T ec W (RF X.K) m σ H (fun v H1 => D.nx (σ.set i (some v)) H1) := by
  obtain ⟨ρ, S, μ, J, r, h⟩ := h
  refine tx_mono (tx_stmt r h) fun v H1 ⟨us, S1, μ1, J1, r1, st, rf, h1⟩ => ?_
  obtain ⟨p, vs, rfl, hp, hp1, hJ, hm, ru⟩ := rf
  exact fin_nx (r1.setOwn hp1 hJ hm (B_none r hp) (r.rel.notOwn hp) ru) h1
theorem rs_own {m : En → Sto → UM (List U)} (hN : X.N.Nodup) (hi : X.N[i]? = some x) (hx : Loc X.env.scope x) (hs : swapsWith a (some (.Name x pos')) pos.line X.env = pure false) (hf : X.fn x = true ∨ X.env.scope.names.lookup x = some .local) (ha : PE X a (TX X.K T ec W (RF X.K) m)) :
    PS X (.Assign [.Name x pos'] a pos) (SV X T ec W B fun ρ S => bindE (m ρ S) fun us S => nxS (ρ.set i (.own us)) S) :=
  ps_imp (ps_set hN hi hx ha hs hf) fun D σ H h => own_fin h
/-- a new shared list -/
theorem Rel.push {K : PySem.W.Frag} {μ : List Addr} {J H : Hp} {ρ : En} {S : Sto} {σ : L2.St} {p : Addr} {us : List U} {vs : List V} (rel : Rel K T μ J ρ S σ H) (hp : H p = some (.lst vs)) (hJ : J p = none) (hm : p ∉ μ) (hn : ∀ (j : Nat) (ws : List U), ρ[j]? = some (Slot.own ws) → σ[j]? ≠ some (some (V.ref p))) (ru : RUs K μ J us vs) :
    Rel K T (μ ++ [p]) J ρ (S ++ [us]) σ H ∧ RU K (μ ++ [p]) J (.ref S.length) (.ref p) ∧ Pre μ (μ ++ [p]) := by
  have pre : Pre μ (μ ++ [p]) := fun r a e => by
    have : r < μ.length := (List.getElem?_eq_some_iff.mp e).1
    rw [List.getElem?_append_left this]; exact e
  refine ⟨⟨rel.len, rel.jh, by simp [rel.ml], ?_, fun r us' a e1 e2 => ?_, fun j s o e1 e2 => ?_, rel.inj, rel.tab, rel.jt⟩, .ref ?_, pre⟩
  · rw [List.nodup_append]
    refine ⟨rel.mn, by simp, fun a ha b hb => ?_⟩
    have : b = p := by simpa using hb
    subst this
    exact fun e => hm (e ▸ ha)
  · by_cases q : r < S.length
    · rw [List.getElem?_append_left q] at e1
      rw [List.getElem?_append_left (by rw [rel.ml]; exact q)] at e2
      obtain ⟨ws, h1, h2, h3⟩ := rel.st r us' a e1 e2
      exact ⟨ws, h1, h2, h3.mono (Sub.refl _) pre⟩
    · have hr : r = S.length := by
        have := (List.getElem?_eq_some_iff.mp e1).1
        simp at this; omega
      subst hr
      rw [List.getElem?_append_right (Nat.le_refl _)] at e1
      rw [List.getElem?_append_right (by rw [rel.ml]; exact Nat.le_refl _), rel.ml] at e2
      simp at e1 e2
      subst e1 e2
      exact ⟨vs, hp, hJ, ru.mono (Sub.refl _) pre⟩
  · have q := rel.sl j s o e1 e2
    cases s with
    | nil => trivial
    | v u => obtain ⟨w, e, h⟩ := q; exact ⟨w, e, h.mono (Sub.refl _) pre⟩
    | own us' =>
      obtain ⟨a, ws, e, h1, h2, h3, h4⟩ := q
      refine ⟨a, ws, e, h1, h2, fun hmem => ?_, h4.mono (Sub.refl _) pre⟩
      rcases List.mem_append.mp hmem with z | z
      · exact h3 z
      · have : a = p := by simpa using z
        subst this
        exact hn j us' e1 (by rw [e2, e])
  · rw [List.getElem?_append_right (by rw [rel.ml]; exact Nat.le_refl _), rel.ml]; simp
theorem rs_alc {m : En → Sto → UM (List U)} (hN : X.N.Nodup) (hi : X.N[i]? = some x) (hx : Loc X.env.scope x) (hs : swapsWith a (some (.Name x pos')) pos.line X.env = pure false) (hf : X.fn x = true ∨ X.env.scope.names.lookup x = some .local) (ha : PE X a (TX X.K T ec W (RF X.K) m)) :
    PS X (.Assign [.Name x pos'] a pos) (SV X T ec W B fun ρ S => bindE (m ρ S) fun us S => nxS (ρ.set i (.v (.ref S.length))) (S ++ [us])) :=
  ps_imp (ps_set hN hi hx ha hs hf) fun D σ H ⟨ρ, S, μ, J, r, h⟩ => by
    refine tx_mono (tx_stmt r h) fun v H1 ⟨us, S1, μ1, J1, r1, st, rf, h1⟩ => ?_
    obtain ⟨p, vs, rfl, hp, hp1, hJ, hm, ru⟩ := rf
    obtain ⟨rel2, ru2, pre2⟩ := r1.rel.push hp1 hJ hm (r.rel.notOwn hp) ru
    have st2 : Step B.μ B.J B.H (μ1 ++ [p]) J1 H1 := by
      obtain ⟨⟨t, e, f⟩, a2, a3, a4, a5⟩ := r1.st
      refine ⟨⟨t ++ [p], by rw [e, List.append_assoc], fun c hc => ?_⟩, a2, a3, a4, a5⟩
      rcases List.mem_append.mp hc with z | z
      · exact f c z
      · have : c = p := by simpa using z
        subst this
        exact B_none r hp
    have r2 : RS X.K T B (μ1 ++ [p]) J1 ρ (S1 ++ [us]) σ H1 := ⟨rel2, st2, r1.own⟩
    exact fin_nx2 (r2.setV i ru2) pre2 (Sub.refl _) h1
theorem rs_retA {m : En → Sto → UM (List U)} (ha : PE X a (TX X.K T ec W (RF X.K) m)) : PS X (.Return (some a) pos) (SV X T ec W B fun ρ S => bindE (m ρ S) fun us S => some (.ret (.ref S.length), S ++ [us])) :=
  ps_imp (ps_ret ha) fun D σ H ⟨ρ, S, μ, J, r, h⟩ => by
    refine tx_mono (tx_stmt r h) fun v H1 ⟨us, S1, μ1, J1, r1, st, rf, h1⟩ => ?_
    obtain ⟨p, vs, rfl, hp, hp1, hJ, hm, ru⟩ := rf
    obtain ⟨rel2, ru2, pre2⟩ := r1.rel.push hp1 hJ hm (r.rel.notOwn hp) ru
    have st2 : Step B.μ B.J B.H (μ1 ++ [p]) J1 H1 := by
      obtain ⟨⟨t, e, f⟩, a2, a3, a4, a5⟩ := r1.st
      refine ⟨⟨t ++ [p], by rw [e, List.append_assoc], fun c hc => ?_⟩, a2, a3, a4, a5⟩
      rcases List.mem_append.mp hc with z | z
      · exact f c z
      · have : c = p := by simpa using z
        subst this
        exact B_none r hp
    exact h1 (.ref p) (μ1 ++ [p]) J1 H1 rel2.forget st2 ru2
end
end
end Wy
end
section
set_option maxRecDepth 100000
set_option maxHeartbeats 2000000
namespace Wy
open PySem PySem.Spec PyProof.Rows L2
section
variable {X : Cx} {T : List (Addr × Str)} {ec : Str → Addr} {W : WX} {B : Bs}
variable {st : Stmt} {rest : List Stmt} {e a b : Expr} {pos : Pos} {ma mb : En → Sto → UM U} {m1 m2 : En → Sto → SM}
theorem ownOf_some {o : Option Slot} {us : List U} (h : ownOf o = some us) : o = some (.own us) := by
  unfold ownOf at h
  split at h
  · cases h; rfl
  · cases h
theorem lstOf_some {u : U} {us : List U} (h : lstOf u = some us) : u = .lst us := by
  unfold lstOf at h
  split at h
  · cases h; rfl
  · cases h
/-- an own list is left as it is from now on -/
theorem rs_frz {i : Nat} {sts : List Stmt} (h : PSs X sts (SV X T ec W B m2)) : PSs X sts (SV X T ec W B (seqS (frzU i) m2)) :=
  pss_imp h fun D σ H ⟨ρ, S, μ, J, r, h⟩ => by
    have h' : FinS X.K T ec W B μ J (match (match ownOf ρ[i]? with
      | some us => nxS (ρ.set i (.v (.lst us))) S
      | none => none) with
      | some (.nx ρ', S') => m2 ρ' S'
      | r => r) D := h
    clear h
    match e0 : ownOf ρ[i]?, h' with
    | none, h => exact h.elim
    | some us, h =>
      have e := ownOf_some e0
      have h : FinS X.K T ec W B μ J (m2 (ρ.set i (.v (.lst us))) S) D := h
      obtain ⟨o, e1, p, vs, e2, hp, hJ, hm, ru⟩ := r.rel.at e
      subst e2
      have hB := r.own i us p e e1
      have hi : i < ρ.length := (List.getElem?_eq_some_iff.mp e).1
      have sJ : Sub J (upd J p (.lst vs)) := upd_sub hJ
      -- first the slot is forgotten, then the list is settled, then the slot holds it
      have r0 := r.rel.setN i (some (.ref p))
      have eσ : σ.set i (some (.ref p)) = σ := by
        have hj : i < σ.length := by rw [← r.rel.len]; exact hi
        apply List.ext_getElem?
        intro j
        by_cases z : i = j
        · subst z; rw [List.getElem?_set_self hj, e1]
        · rw [List.getElem?_set_ne z]
      rw [eσ] at r0
      have r1 := r0.settle hp hJ hm (fun j ws e3 e4 => by
        by_cases z : i = j
        · subst z; rw [List.getElem?_set_self hi] at e3; cases e3
        · rw [List.getElem?_set_ne z] at e3
          exact z (r.rel.inj i j us ws p e e3 e1 e4))
      have r2 := r1.setV i (u := .lst us) (v := .ref p) (.lst upd_same (ru.mono sJ fun _ _ h => h))
      rw [eσ, List.set_set] at r2
      have st2 : Step B.μ B.J B.H μ (upd J p (.lst vs)) H := by
        obtain ⟨a1, a2, a3, a4, a5⟩ := r.st
        exact ⟨a1, a2.trans sJ, fun b hb => by rw [upd_ne (fun z => by subst z; exact hb hB)]; exact a3 b hb, a4, a5⟩
      refine ⟨ρ.set i (.v (.lst us)), S, μ, upd J p (.lst vs), ⟨r2, st2, fun j ws q e3 e4 => ?_⟩, finS_later (Pre.refl _) sJ h⟩
      by_cases z : i = j
      · subst z; rw [List.getElem?_set_self hi] at e3; cases e3
      · rw [List.getElem?_set_ne z] at e3
        exact r.own j ws q e3 e4
/-! ### methods of own lists -/
section
variable {i : Nat} {x : Str} {p2 apos cpos : Pos}
theorem rs_app (hN : X.N[i]? = some x) (hv : Vis X.env.scope x) (hd : (x == ("__debug__" : Str)) = false) (hcd : (x == ("__classdict__" : Str)) = false) (hline : (apos.endLine == cpos.line) = true)
    (he : starEach [a] X.env = [(false, eval a X.env)]) (ha : PE X a (EV X T ec W ma)) :
    PS X (.Expr (.Call (.Attribute (.Name x p2) "append" apos) [a] [] cpos) pos) (SV X T ec W B (appU i ma)) := by
  have he0 : starEach ([] : List Expr) X.env = [] := rfl
  refine ps_imp (ps_expr (pe_bm (cpos := cpos) PySem.F.plainAttrs_list PySem.F.slot_list_append PySem.F.type_list_append mt_append (pe_var (i := i) hN hv hd hcd) (pa_cons ha pa_nil (by rw [he, he0])) rfl (by rw [he]; rfl) hline (by rw [he, he0]) rfl) rfl) fun D σ H ⟨ρ, S, μ, J, r, h⟩ => ?_
  unfold appU at h
  match e0 : ownOf ρ[i]?, h with
  | none, h => exact h.elim
  | some us, h =>
    have e := ownOf_some e0
    obtain ⟨o, e1, p, vs, e2, hp, hJ, hm, ru⟩ := r.rel.at e
    subst e2
    refine ⟨.ref p, e1, .inl ⟨rfl, vs, SqL.of hp⟩, ?_⟩
    refine tx_mono (tx_stmt r h) fun v H1 ⟨u, S1, μ1, J1, r1, st, rv, h1⟩ => ?_
    by_cases c : us.length < line
    · simp only [if_pos c] at h1
      obtain ⟨o1, f1, p1, vs1, f2, hp1, hJ1, hm1, ru1⟩ := r1.rel.at e
      rw [e1] at f1; cases f1; cases f2
      refine ⟨p, vs1, v, rfl, rfl, hp1, ?_, ?_⟩
      · rw [← ru1.length]; exact Nat.lt_of_lt_of_le c line_le
      · exact fin_nx (r1.chg e e1 hp1 (ru1.append (.cons rv .nil))) h1
    · simp only [if_neg c] at h1
      exact h1.elim
theorem rs_ext (hN : X.N[i]? = some x) (hv : Vis X.env.scope x) (hd : (x == ("__debug__" : Str)) = false) (hcd : (x == ("__classdict__" : Str)) = false) (hline : (apos.endLine == cpos.line) = true)
    (he : starEach [a] X.env = [(false, eval a X.env)]) (ha : PE X a (EV X T ec W ma)) :
    PS X (.Expr (.Call (.Attribute (.Name x p2) "extend" apos) [a] [] cpos) pos) (SV X T ec W B (extU i ma)) := by
  have he0 : starEach ([] : List Expr) X.env = [] := rfl
  refine ps_imp (ps_expr (pe_bm (cpos := cpos) PySem.F.plainAttrs_list PySem.F.slot_list_extend PySem.F.type_list_extend mt_extend (pe_var (i := i) hN hv hd hcd) (pa_cons ha pa_nil (by rw [he, he0])) rfl (by rw [he]; rfl) hline (by rw [he, he0]) rfl) rfl) fun D σ H ⟨ρ, S, μ, J, r, h⟩ => ?_
  unfold extU at h
  match e0 : ownOf ρ[i]?, h with
  | none, h => exact h.elim
  | some us, h =>
    have e := ownOf_some e0
    obtain ⟨o, e1, p, vs, e2, hp, hJ, hm, ru⟩ := r.rel.at e
    subst e2
    refine ⟨.ref p, e1, .inl ⟨rfl, vs, SqL.of hp⟩, ?_⟩
    refine tx_mono (tx_stmt r h) fun v H1 ⟨u, S1, μ1, J1, r1, st, rv, h1⟩ => ?_
    match e3 : lstOf u, h1 with
    | none, h1 => exact h1.elim
    | some ws, h1 =>
      have h2 : FinS X.K T ec W B μ1 J1 (if us.length + ws.length ≤ line then nxS (ρ.set i (.own (us ++ ws))) S1 else none) D := h1
      have e3 := lstOf_some e3
      subst e3
      cases rv with
      | lst ht rw =>
        by_cases c : us.length + ws.length ≤ line
        · rw [if_pos c] at h2
          obtain ⟨o1, f1, p1, vs1, f2, hp1, hJ1, hm1, ru1⟩ := r1.rel.at e
          rw [e1] at f1; cases f1; cases f2
          refine ⟨p, _, vs1, _, rfl, rfl, hp1, r1.rel.jh _ _ ht, ?_, ?_⟩
          · rw [← ru1.length, ← rw.length]; exact Nat.le_trans c line_le
          · exact fin_nx (r1.chg e e1 hp1 (ru1.append rw)) h2
        · rw [if_neg c] at h2
          exact h2.elim
/-- target = own.pop() -/
theorem rs_pop {tg : Tg} {tgE : Expr} (hN : X.N[i]? = some x) (hv : Vis X.env.scope x) (hd : (x == ("__debug__" : Str)) = false) (hcd : (x == ("__classdict__" : Str)) = false) (hline : (apos.endLine == cpos.line) = true)
    (hg : PG X tgE (gOf X.K tg)) (hs : swapsWithSole [tgE] (.Call (.Attribute (.Name x p2) "pop" apos) [] [] cpos) pos.line X.env = pure false) (hw : swappedStores [tgE] (.Call (.Attribute (.Name x p2) "pop" apos) [] [] cpos) X.env = pure none)
    (h1 : (assignEach [tgE] X.env).map (·.2) = [assign tgE X.env]) :
    PS X (.Assign [tgE] (.Call (.Attribute (.Name x p2) "pop" apos) [] [] cpos) pos) (SV X T ec W B (popM tg i)) := by
  refine ps_imp (ps_asg (pe_bm0 (cpos := cpos) PySem.F.plainAttrs_list PySem.F.slot_list_pop PySem.F.type_list_pop mt_pop (pe_var (i := i) hN hv hd hcd) rfl hline) hg hs hw h1) fun D σ H ⟨ρ, S, μ, J, r, h⟩ => ?_
  unfold popM at h
  match e0 : ownOf ρ[i]?, h with
  | none, h => exact h.elim
  | some us, h =>
    have e := ownOf_some e0
    obtain ⟨o, e1, p, vs, e2, hp, hJ, hm, ru⟩ := r.rel.at e
    subst e2
    dsimp only at h
    match e3 : us.getLast?, h with
    | none, h => exact h.elim
    | some u, h =>
      rw [List.getLast?_eq_getElem?] at e3
      obtain ⟨y, hy, ry⟩ := ru.get e3
      rw [ru.length] at hy
      have hl : us.dropLast = us.take (us.length - 1) := List.dropLast_eq_take
      have hl2 : vs.dropLast = vs.take (vs.length - 1) := List.dropLast_eq_take
      have r2 := r.chg (ws := us.dropLast) (xs := vs.dropLast) e e1 hp (by rw [hl, hl2, ru.length]; exact ru.take _)
      refine ⟨.ref p, e1, .inl ⟨rfl, vs, SqL.of hp⟩, p, vs, y, rfl, rfl, hp, hy, ?_⟩
      dsimp only at h
      match e4 : setTg tg u (ρ.set i (.own us.dropLast)), h with
      | none, h => exact h.elim
      | some ρ', h =>
        refine tg_read r2.rel ry e4 fun σ' rel' _ ok => ?_
        exact fin_nx ⟨rel', r2.st, fun j ws q e5 e6 => r2.own j ws q (ok j ws q e5 e6).1 (ok j ws q e5 e6).2⟩ h
end
end
end Wy
end
section
set_option maxRecDepth 100000
set_option maxHeartbeats 2000000
namespace Wy
open PySem PySem.Spec PyProof.Rows L2
section
variable {X : Cx} {T : List (Addr × Str)} {ec : Str → Addr} {W : WX} {B : Bs}
variable {st : Stmt} {rest : List Stmt} {e a b c : Expr} {pos : Pos} {ma mb mc : En → Sto → UM U} {m1 m2 : En → Sto → SM}
variable {μ μ1 : List Addr} {J J1 H H1 : Hp} {ρ : En} {S S1 : Sto} {σ : L2.St} {D D' : Ends}
/-- a shared list changed in its place -/
theorem RS.setS {K : PySem.W.Frag} {r : Nat} {p : Addr} {us : List U} {vs : List V} (q : RS K T B μ J ρ S σ H) (hr : μ[r]? = some p) (hs : S[r]? = some us) (ru : ∀ vs0, RUs K μ J us vs0 → ∀ ws0, H p = some (.lst ws0) → True) {ws : List U} {xs : List V} (hx : RUs K μ J ws xs) (hp : H p = some (.lst vs)) :
    RS K T B μ J ρ (S.set r ws) σ (upd H p (.lst xs)) := by
  have rel := q.rel
  obtain ⟨vs1, h1, hJ, _⟩ := rel.st r us p hs hr
  have hpm : p ∈ μ := List.mem_of_getElem? hr
  refine ⟨⟨rel.len, fun b o e => ?_, by simp [rel.ml], rel.mn, fun k us' a e1 e2 => ?_, fun j s o e1 e2 => ?_, rel.inj, tabs_upd rel.tab hp, rel.jt⟩, ?_, q.own⟩
  · have : b ≠ p := fun z => by subst z; rw [hJ] at e; cases e
    rw [upd_ne this]; exact rel.jh _ _ e
  · by_cases z : r = k
    · subst z
      rw [hr] at e2; cases e2
      have hlt : r < S.length := (List.getElem?_eq_some_iff.mp hs).1
      rw [List.getElem?_set_self hlt] at e1
      cases e1
      exact ⟨xs, upd_same, hJ, hx⟩
    · rw [List.getElem?_set_ne z] at e1
      obtain ⟨ys, k1, k2, k3⟩ := rel.st k us' a e1 e2
      have : a ≠ p := fun y => by
        subst y
        obtain ⟨h1, e1⟩ := List.getElem?_eq_some_iff.mp hr
        obtain ⟨h2, e2⟩ := List.getElem?_eq_some_iff.mp e2
        exact z ((List.getElem_inj rel.mn).mp (e1.trans e2.symm))
      exact ⟨ys, by rw [upd_ne this]; exact k1, k2, k3⟩
  · have w := rel.sl j s o e1 e2
    cases s with
    | nil => trivial
    | v u => exact w
    | own us' =>
      obtain ⟨a, ys, e, k1, k2, k3, k4⟩ := w
      have : a ≠ p := fun y => k3 (y ▸ hpm)
      exact ⟨a, ys, e, by rw [upd_ne this]; exact k1, k2, k3, k4⟩
  · obtain ⟨⟨t, e, f⟩, a2, a3, a4, a5⟩ := q.st
    refine ⟨⟨t, e, f⟩, a2, a3, fun b o hb hn nt => ?_, fun b hb => ?_⟩
    · have : b ≠ p := fun y => by
        subst y
        rw [e] at hpm
        rcases List.mem_append.mp hpm with z | z
        · exact hn z
        · exact Fr0.no hb nt (f b z)
      rw [upd_ne this]; exact a4 b o hb hn nt
    · by_cases z : b = p
      · subst z; exact absurd hb (Fr0.no upd_same (fun ps e => nomatch e))
      · exact a5 b fun o e => hb o (by rw [upd_ne z]; exact e)
theorem rs_sidx {tpos : Pos} {mi : En → Sto → UM U} {i : Expr} (he : PE X e (EV X T ec W ma)) (ha : PE X a (EV X T ec W mb)) (hi : PE X i (EV X T ec W mi))
    (h0 : ∀ v, assign (.Subscript a i tpos) X.env v = (do
      let ov ← holding [v] (eval a X.env)
      let iv ← holding [v, ov] (eval i X.env)
      standAt tpos
      holding [v, ov, iv] (setItem ov iv v)
      release [v, ov, iv] []))
    (hs : swapsWithSole [.Subscript a i tpos] e pos.line X.env = pure false) (hw : swappedStores [.Subscript a i tpos] e X.env = pure none) :
    PS X (.Assign [.Subscript a i tpos] e pos) (SV X T ec W B fun ρ S => bindE (ma ρ S) fun w S => bindE (mb ρ S) fun u S => bindE (mi ρ S) fun k S => sidxM ρ u k w S) :=
  ps_imp (ps_asg he (pg_sub ha hi set_list h0) hs hw) fun D σ H ⟨ρ, S, μ, J, r, h⟩ => by
    refine tx_mono (tx_stmt r h) fun v H1 ⟨w, S1, μ1, J1, r1, st1, rw, h1⟩ => ?_
    refine tx_mono (tx_stmt r1 h1) fun o H2 ⟨u, S2, μ2, J2, r2, st2, ru, h2⟩ => ?_
    refine tx_mono (tx_stmt r2 h2) fun k H3 ⟨k', S3, μ3, J3, r3, st3, rk, h3⟩ => ?_
    have rw3 := st3.ru (st2.ru rw)
    have ru3 := st3.ru ru
    clear h h1 h2
    unfold sidxM at h3
    match e0 : refOf u, h3 with
    | none, h3 => exact h3.elim
    | some rr, h3 =>
      dsimp only at h3
      match e4 : asI k', h3 with
      | none, h3 => exact h3.elim
      | some kk, h3 =>
        dsimp only at h3
        match e1 : S3[rr]?, h3 with
        | none, h3 => exact h3.elim
        | some us, h3 =>
          dsimp only at h3
          match e2 : ixN us.length kk, h3 with
          | none, h3 => exact h3.elim
          | some j, h3 =>
            cases u <;> simp [refOf] at e0
            subst e0
            cases k' <;> simp [asI] at e4
            subst e4
            cases ru3 with
            | @ref _ p hr =>
              obtain ⟨vs, hp, _, rus⟩ := r3.rel.st _ us p e1 hr
              simp only [e2] at h3
              refine ⟨p, vs, _, j, rfl, ru_int rk, hp, by rw [← rus.length]; exact e2, ?_⟩
              exact fin_nx (r3.setS hr e1 (fun _ _ _ _ => trivial) (rus.set rw3 j) hp) h3
theorem slotU_int {o : Option Slot} {k : Int} (h : slotU o = some (.int k)) : o = some (.v (.int k)) := slotU_some h
theorem rs_aug {i : Nat} {x : Str} {pos' : Pos} (hN : X.N.Nodup) (hi : X.N[i]? = some x) (hx : Loc X.env.scope x) (hf : X.fn x = true ∨ X.env.scope.names.lookup x = some .local) (he : PE X e (EV X T ec W ma)) :
    PS X (.AugAssign (.Name x pos') .Add e pos) (SV X T ec W B (augM i ma)) :=
  ps_imp (ps_aug hN hi hx he ip_add hf) fun D σ H ⟨ρ, S, μ, J, r, h⟩ => by
    unfold augM at h
    split at h
    · rename_i k e0
      obtain ⟨o, e1, v, e2, rv⟩ := r.rel.at (slotU_some e0)
      subst e2
      refine ⟨v, e1, ?_⟩
      refine tx_mono (tx_stmt r h) fun w H1 ⟨u, S1, μ1, J1, r1, st1, rw, h1⟩ => ?_
      match e3 : asI u, h1 with
      | none, h1 => exact h1.elim
      | some z, h1 =>
        cases u <;> simp [asI] at e3
        subst e3
        exact ⟨k, _, ru_int rv, ru_int rw, fin_nx (r1.setV i (.int _)) h1⟩
    · exact h.elim
/-! ### loops -/
theorem rs_for {tg : Tg} {tgE it : Expr} {body : List Stmt} {mi : En → Sto → UM (List U)} (hp : PassesOwn (model X.prog X.w) X.A X.env X.xe) (hc : X.calm = true) (hi : PI X tgE it (TX X.K T ec W (RI X.K T) mi)) (hg : PG X tgE (gOf X.K tg)) (hb : PSs X body (SV X T ec W B m1))
    (hs : ∀ x, foldedSetIterable it X.env x = pure x) : PS X (.For tgE it body [] pos) (SV X T ec W B fun ρ S => bindE (mi ρ S) fun xs S => forL tg m1 xs ρ S) :=
  ps_imp (ps_for hp hc hi hg hb hs) fun D σ H ⟨ρ, S, μ, J, r, h⟩ => by
    refine tx_mono (tx_stmt r h) fun I H1 ⟨us, S1, μ1, J1, r1, st1, iok, h1⟩ => ?_
    refine ⟨fun i m σ H => m = us.length - i ∧ i ≤ us.length ∧ ∃ ρ S μ J, RS X.K T B μ J ρ S σ H ∧ Pre μ1 μ ∧ Sub J1 J ∧ FinS X.K T ec W B μ J (forL tg m1 (us.drop i) ρ S) D,
      ⟨us.length, by simp, Nat.zero_le _, ρ, S1, μ1, J1, r1, Pre.refl _, Sub.refl _, h1⟩, ?_⟩
    rintro i m σ2 H2 ⟨rfl, hi2, ρ2, S2, μ2, J2, r2, p2, s2, h2⟩
    have iok2 := iok μ2 J2 ρ2 S2 σ2 H2 r2.rel s2 p2
    by_cases hlt : i < us.length
    · right
      obtain ⟨go, yl⟩ := iok2.1 i us[i] (by simp [hlt])
      refine ⟨go, fun σ H => i + 1 ≤ us.length ∧ ∃ ρ S μ J, RS X.K T B μ J ρ S σ H ∧ Pre μ1 μ ∧ Sub J1 J ∧ FinS X.K T ec W B μ J (forL tg m1 (us.drop (i + 1)) ρ S) D, fun σ' H' h' => ⟨us.length - (i + 1), by omega, rfl, h'⟩, fun x H' hy => ?_⟩
      obtain ⟨J3, st3, rel3, ru3⟩ := yl x H' hy
      rw [List.drop_eq_getElem_cons hlt] at h2
      unfold forL at h2
      match e3 : setTg tg us[i] ρ2, h2 with
      | none, h2 => exact h2.elim
      | some ρ3, h2 =>
        dsimp only at h2
        refine tg_read rel3 ru3 e3 fun σ3 rel4 _ ok => ?_
        have r4 : RS X.K T B μ2 J3 ρ3 S2 σ3 H' := ⟨rel4, r2.st.trans st3, fun j ws q e5 e6 => r2.own j ws q (ok j ws q e5 e6).1 (ok j ws q e5 e6).2⟩
        refine ⟨ρ3, S2, μ2, J3, r4, ?_⟩
        have h2 := finS_later (Pre.refl _) st3.jj h2
        match e4 : m1 ρ3 S2, h2 with
        | none, h2 => exact h2
        | some (.nx ρ5, S5), h2 => exact fun σ' μ' J' H5 q p s => ⟨hlt, ρ5, S5, μ', J', q, p2.trans p, (s2.trans st3.jj).trans s, finS_later p s h2⟩
        | some (.cnt ρ5, S5), h2 => exact fun σ' μ' J' H5 q p s => ⟨hlt, ρ5, S5, μ', J', q, p2.trans p, (s2.trans st3.jj).trans s, finS_later p s h2⟩
        | some (.brk ρ5, S5), h2 => exact fun σ' μ' J' H5 q p s => h2 σ' μ' J' H5 q p s
        | some (.ret _, _), h2 => exact h2
        | some (.err _, _), h2 => exact h2
    · left
      have hi3 : i = us.length := by omega
      subst hi3
      refine ⟨iok2.2 _ (Nat.le_refl _), ?_⟩
      rw [List.drop_length] at h2
      exact fin_nx r2 h2
theorem rs_whl {body : List Stmt} {n : Nat} (hp : PassesOwn (model X.prog X.w) X.A X.env X.xe) (hc : PT X c (TV X T ec W mc)) (hb : PSs X body (SV X T ec W B m1)) : PS X (.While c body [] pos) (SV X T ec W B fun ρ S => whlL mc m1 n ρ S) :=
  ps_imp (ps_while hp hc hb) fun D σ H ⟨ρ, S, μ, J, r, h⟩ => by
    refine ⟨fun m σ H => ∃ ρ S μ J, RS X.K T B μ J ρ S σ H ∧ FinS X.K T ec W B μ J (whlL mc m1 m ρ S) D, ⟨n, ρ, S, μ, J, r, h⟩, ?_⟩
    rintro m σ2 H2 ⟨ρ2, S2, μ2, J2, r2, h2⟩
    cases m with
    | zero => exact h2.elim
    | succ m =>
      unfold whlL at h2
      refine tx_mono (tst_stmt r2 (fun u S e => by rw [e]) h2) fun b H3 ⟨S3, μ3, J3, r3, st3, h3⟩ => ?_
      cases b with
      | false => exact iteF (fin_nx r3 h3)
      | true =>
        refine iteT ⟨fun σ H => ∃ ρ S μ J, RS X.K T B μ J ρ S σ H ∧ FinS X.K T ec W B μ J (whlL mc m1 m ρ S) D, fun σ' H' h' => ⟨m, Nat.lt_succ_self m, h'⟩, ρ2, S3, μ3, J3, r3, ?_⟩
        dsimp only [asB] at h3
        match e4 : m1 ρ2 S3, h3 with
        | none, h3 => exact h3
        | some (.nx ρ5, S5), h3 => exact fun σ' μ' J' H5 q p s => ⟨ρ5, S5, μ', J', q, finS_later p s h3⟩
        | some (.cnt ρ5, S5), h3 => exact fun σ' μ' J' H5 q p s => ⟨ρ5, S5, μ', J', q, finS_later p s h3⟩
        | some (.brk ρ5, S5), h3 => exact fun σ' μ' J' H5 q p s => h3 σ' μ' J' H5 q p s
        | some (.ret _, _), h3 => exact h3
        | some (.err _, _), h3 => exact h3
/-! ### raise X() -/
theorem pmk_own0 {C : Addr} {bmB : List Value} {B0 newId initId : String} {x : Str} {p pos : Pos} (F : ExcBaseFacts B0 newId initId bmB) (q : PySem.W.excIn X.K C bmB newId = true) (gC : X.mg x = some (.ref C)) (kC : PySem.W.keepIn X.K (.ref C) = true) (r : Raises X (.ref C)) (hg : Gl X x)
    (hdb : (x == ("__debug__" : Str)) = false) : PMk X (.Call (.Name x p) [] [] pos) (fun _ H Q => Q (.ref C) none H) := by
  intro pins s σ H Q I h
  refine wpAny_Call_Name_kw (ld_glob I hg gC ?_ hdb)
  refine PySem.W.callWith_K0 I.kIn kC ?_
  show wpAny _ _ (call (.ref C) []) _ _ _
  obtain ⟨bm, N, nm, qn, bs, hdct, sn, sub, ab, col, dd, k0, k1, k2, k3, k5, mN, hC, hN, hni, T⟩ := exc_obj I.kIn q
  refine wpAny_call_exc_subT F T hC hN hni (fun h' e hm => ?_) (by show 0 ≤ sizeLine; exact Nat.zero_le _)
  exact mk_of I hm r h (I.hok.gone hm.new)
/-- what an own error class must have -/
structure ExcOk (K : PySem.W.Frag) (mg : Str → Option Value) (ec : Str → Addr) (x : Str) : Prop where
  gC : mg x = some (.ref (ec x))
  q : PySem.W.excIn K (ec x) [.type "ValueError", .type "Exception", .type "BaseException", .type "object"] "ValueError.__new__" = true
  kC : PySem.W.keepIn K (.ref (ec x)) = true
  s : PySem.W.subIn K (.ref (ec x)) (.type "BaseException") = some true
  t : PySem.W.typeIn K (.ref (ec x)) = some (.type "type")
theorem rs_raise {x : Str} {p cpos : Pos} (hc : X.calm = true) (tk : Takes X W) (E : ExcOk X.K X.mg ec x) (hg : Gl X x) (hdb : (x == ("__debug__" : Str)) = false) :
    PS X (.Raise (some (.Call (.Name x p) [] [] cpos)) none pos) (SV X T ec W B fun _ S => some (.err x, S)) :=
  ps_imp (ps_raise hc tk (pmk_own0 PySem.F.excBase_ValueError E.q E.gC E.kC (raises_own E.s E.t) hg hdb)) fun D σ H ⟨ρ, S, μ, J, r, h⟩ => h σ μ J H r.rel.forget r.st
end
end Wy
end
section
set_option maxRecDepth 100000
set_option maxHeartbeats 2000000
/-! a tuple read backwards -/
namespace HT
open PySem PySem.Spec PyProof.Rows Builtin
section
variable {prog : Program} {w : World} {A : Around} {E : Value → Shared → Prop} {s : Shared}
theorem wy_adj (n : Nat) : Builtin.Slice.sliceAdjust none none (-1) (n : Int) = ((n : Int) - 1, -1) := by
  unfold Builtin.Slice.sliceAdjust
  have h1 : ((-1 : Int) < 0) := by omega
  simp only [h1, if_true]
theorem wy_places (n : Nat) : Builtin.Slice.slicePlaces ((n : Int) - 1) (-1) (-1) = n := by
  unfold Builtin.Slice.slicePlaces
  have h1 : ¬ ((-1 : Int) > 0) := by omega
  simp only [h1, if_false]
  split <;> simp <;> omega
theorem wy_sliceApplied {sl : Addr} {vl vu vs : Value} {n : Nat} {Q : Int × Int × Nat → Shared → Prop} (hs : s.heap.IsSliceOf sl vl vu vs) (pl : IsPart vl none) (pu : IsPart vu none) (pk : IsPart vs (some (-1)))
    (h : Q ((n : Int) - 1, -1, n) s) : wpAny (model prog w) A (Builtin.Slice.sliceApplied (.ref sl) (pure (n : Int))) Q E s := by
  obtain ⟨os, hos, hcs, hds⟩ := id hs
  unfold Builtin.Slice.sliceApplied Builtin.Slice.sliceFields
  refine wpAny_bind (wpAny_bind (wpAny_field hos hds (x := vl) rfl (wpAny_bind (wpAny_field hos hds (x := vu) rfl (wpAny_bind (wpAny_field hos hds (x := vs) rfl (wpAny_pure ?_)))))))
  refine wpAny_bind (slicePart_ pk ?_)
  show wpAny _ _ (if ((-1 : Int) == 0) = true then _ else _) _ _ s
  rw [if_neg (by decide)]
  refine wpAny_bind (slicePart_ pl (wpAny_bind (slicePart_ pu (wpAny_bind (wpAny_pure ?_)))))
  show wpAny _ _ (match Builtin.Slice.sliceAdjust none none (-1) (n : Int) with | (lo, hi) => pure (lo, (-1 : Int), Builtin.Slice.slicePlaces lo hi (-1))) _ _ s
  rw [wy_adj]
  show wpAny _ _ (pure ((n : Int) - 1, (-1 : Int), Builtin.Slice.slicePlaces ((n : Int) - 1) (-1) (-1))) _ _ s
  rw [wy_places]
  exact wpAny_pure h
theorem wy_pick (xs : Array Value) : ((List.range xs.size).filterMap fun (m : Nat) => xs[(((xs.size : Int) - 1) + (m : Int) * (-1)).toNat]?).toArray = xs.toList.reverse.toArray := by
  have e : ((List.range xs.size).filterMap fun (m : Nat) => xs[(((xs.size : Int) - 1) + (m : Int) * (-1)).toNat]?) = ((List.range xs.size).map fun k => xs.size - 1 - k).filterMap (xs[·]?) := by
    rw [List.filterMap_map]
    have key : ∀ l : List Nat, (∀ k ∈ l, k < xs.size) → l.filterMap (fun (m : Nat) => xs[(((xs.size : Int) - 1) + (m : Int) * (-1)).toNat]?) = l.filterMap ((fun k => xs[k]?) ∘ fun k => xs.size - 1 - k) := fun l => by
      induction l with
      | nil => intro _; rfl
      | cons k l ih =>
        intro hl
        have hk := hl k List.mem_cons_self
        have e1 : (((xs.size : Int) - 1) + (k : Int) * (-1)).toNat = xs.size - 1 - k := by omega
        have e2 : xs[(((xs.size : Int) - 1) + (k : Int) * (-1)).toNat]? = ((fun k => xs[k]?) ∘ fun k => xs.size - 1 - k) k := by rw [e1] <;> rfl
        rw [List.filterMap_cons, List.filterMap_cons, ih fun j hj => hl j (List.mem_cons_of_mem _ hj), e2]
    exact key _ fun k hk => List.mem_range.mp hk
  rw [e, PySem.W.krv_range, List.filterMap_reverse, PySem.W.krv_all]
theorem wy_getItem_tuple_rev {t sl : Addr} {items : Array Value} {vl vu vs : Value} {Q : Value → Shared → Prop} (ht : IsTup s.heap t items) (hs : s.heap.IsSliceOf sl vl vu vs) (pl : IsPart vl none) (pu : IsPart vu none) (pk : IsPart vs (some (-1)))
    (h : Q (.ref s.heap.objs.size) { s with heap := s.heap.push { cls := .type "tuple", data := .seq items.toList.reverse.toArray } })
    (hsz : items.size ≤ sizeLine) : wpAny (model prog w) A (getItem (.ref t) (.ref sl)) Q E s := by
  have htake : sizeOk (.seq items.toList.reverse.toArray) := by
    show items.toList.reverse.toArray.size ≤ sizeLine
    rw [List.size_toArray, List.length_reverse, Array.length_toList]
    exact hsz
  obtain ⟨os, hos, hcs, hds⟩ := id hs
  have hTs : s.TypeIs (.ref sl) "slice" := ⟨os, hos, hcs⟩
  unfold getItem
  try with_reducible refine wpAny_holding ?_
  first | refine wpAny_bind (wpAny_pure ?_) | skip
  refine wpAny_bind (wpAny_sequenceKey ht.typeIs (by decide) ?_)
  refine wpAny_bind (wpAny_callSpecial?_slot (name := Str.ofString "__getitem__") ht.typeIs PyProof.Rows.slot_tuple_getitem
    (wpAny_call_entry PyProof.Rows.slot_tuple_getitem ht.typeIs entry_tuple_getitem ?_ (args_tuple_getitem _ _)))
  show wpAny _ _ (Builtin.Tuple.tupleItemsOf (.ref t) >>= _) _ _ s
  refine wpAny_bind (tupleItemsOf_ ht ?_)
  refine wpAny_bind (wpAny_typeOf hTs ?_)
  rw [if_pos (by decide)]
  refine wpAny_bind (wy_sliceApplied hs pl pu pk ?_)
  have hno : ¬ ((((items.size : Int) - 1) == 0 && (-1 : Int) == 1 && items.size == items.size) = true) := by
    intro q
    rw [Bool.and_eq_true, Bool.and_eq_true] at q
    exact absurd q.1.2 (by decide)
  show wpAny _ _ (if (((items.size : Int) - 1) == 0 && (-1 : Int) == 1 && items.size == items.size) = true then _ else _) _ _ s
  rw [if_neg hno, wy_pick]
  first
    | exact wpAny_bind (m := Builtin.Tuple.tupleExact _) (wpAny_newObj_type (wpAny_pure ⟨_, rfl, wpAny_pure h⟩) htake)
    | exact wpAny_bind (m := Builtin.Tuple.tupleExact _) (wpAny_newObj_type (wpAny_bind (wpAny_pure (wpAny_pure ⟨_, rfl, wpAny_pure h⟩))) htake)
    | exact wpAny_bind (wpAny_bind (m := Builtin.Tuple.tupleExact _) (wpAny_newObj_type (wpAny_pure (wpAny_pure ⟨_, rfl, wpAny_pure h⟩)) htake))
    | exact wpAny_bind (wpAny_bind (m := Builtin.Tuple.tupleExact _) (wpAny_newObj_type (wpAny_pure ⟨_, rfl, wpAny_pure h⟩) htake))
end
end HT
namespace Wy
open PySem PySem.Spec PyProof.Rows L2
theorem pe_revT {X : Cx} {e : Expr} {te : TE} {k : Nat} {p1 p2 p3 pos : Pos} (he : PE X e te) : PE X (.Subscript e (.Slice none none (some (.UnaryOp .USub (.Constant (.int 1) k p1) p2)) p3) pos) (tRevT X.K te) := by
  refine ⟨fun pins s σ H Q I h => ?_⟩
  refine Subscript_ (thn (he.run pins s σ H _ I h) fun v s1 ⟨x, H1, I1, r1, q1⟩ => ?_)
  obtain ⟨a, xs, ex, hx, q⟩ := q1
  subst ex
  cases r1
  have hst : PO X (some (.UnaryOp .USub (.Constant (.int 1) k p1) p2)) (tPart (tUn (rU fun i => .int (-i)) (tC (.int 1)))) := po_some (pe_un un_neg pe_int)
  refine wpAny_Slice (thn (po_none.run pins s1 σ H1 (fun o H2 => o = none ∧ H2 = H1) I1 ⟨rfl, rfl⟩) fun vl s2 ⟨l, H2, I2, pl, el, e2⟩ => ?_)
  subst el e2
  refine thn (po_none.run pins s2 σ H2 (fun o H3 => o = none ∧ H3 = H2) I2 ⟨rfl, rfl⟩) fun vu s3 ⟨u, H3, I3, pu, eu, e3⟩ => ?_
  subst eu e3
  refine thn (hst.run pins s3 σ H3 (fun o H4 => o = some (-1) ∧ H4 = H3) I3 ⟨1, rfl, -1, rfl, rfl, rfl⟩) fun vs s4 ⟨o, H4, I4, ps, eo, e4⟩ => ?_
  subst eo e4
  have I5 : Inv X pins σ H4 { s4 with heap := s4.heap.push { cls := .type "slice", data := .fields #[vl, vu, vs] } } := I4.kept (t' := s4.toks) fun b ob q => Heap.get?_push_of_some _ q
  obtain ⟨its, r, ht, hz⟩ := I5.tuple hx
  have hlen := r.length
  show wpAny (model X.prog X.w) X.A (subscriptTail e (.Slice none none (some (.UnaryOp .USub (.Constant (.int 1) k p1) p2)) p3) (.ref a) (.ref s4.heap.objs.size)) (EP X pins σ Q) X.xe { s4 with heap := s4.heap.push { cls := .type "slice", data := .fields #[vl, vu, vs] } }
  refine tail_any (ops := [.ref a, .ref s4.heap.objs.size]) ht.typeIs (PyProof.Rows.slot_tuple_getitem.lookup) ?_ (by with_unfolding_all rfl)
  refine HT.wy_getItem_tuple_rev ht (Heap.IsSliceOf.new _ vl vu vs) pl pu ps ?_ (by rw [List.size_toArray]; omega)
  refine ⟨.ref _, _, I5.laid (t' := s4.toks) (o := .tup xs.reverse) (fun b ob q => Heap.get?_push_of_some _ q) (Nat.le_refl _) ?_, rfl, q _ (I5.hok.fresh (Nat.le_refl _))⟩
  exact ⟨by rw [List.length_reverse]; exact hz, _, r.reverse, ⟨_, Heap.get?_push_size _ rfl, rfl, 0, rfl⟩⟩
section
variable {X : Cx} {T : List (Addr × Str)} {ec : Str → Addr} {W : WX}
variable {μ μ1 : List Addr} {J J1 H H1 : Hp} {ρ : En} {S : Sto} {σ : L2.St}
variable {a : Expr} {ma : En → Sto → UM U} {pos p1 p2 p3 : Pos} {k : Nat}
theorem r_rev (ha : PE X a (EV X T ec W ma)) :
    PE X (.Subscript a (.Slice none none (some (.UnaryOp .USub (.Constant (.int 1) k p1) p2)) p3) pos) (EV X T ec W fun ρ S => bindO (ma ρ S) fun u S => optO (uRev u) S) := by
  refine pe_imp (pe_alt (pe_revL ha) (pe_revT ha)) fun σ H Q ⟨ρ, S, μ, J, rel, h⟩ => ?_
  match e : ma ρ S, h with
  | none, h =>
    have h : Fin' X.K T ec W (RV X.K) μ J ρ σ H (bindO (ma ρ S) fun u S => optO (uRev u) S) Q := h
    rw [e] at h; exact h.elim
  | some (.err c, S'), h =>
    have h : Fin' X.K T ec W (RV X.K) μ J ρ σ H (bindO (ma ρ S) fun u S => optO (uRev u) S) Q := h
    refine .inl ⟨ρ, S, μ, J, rel, ?_⟩
    rw [e] at h ⊢
    exact h
  | some (.ok (.tup us), S'), h =>
    have h : Fin' X.K T ec W (RV X.K) μ J ρ σ H (bindO (ma ρ S) fun u S => optO (uRev u) S) Q := h
    refine .inr ⟨ρ, S, μ, J, rel, ?_⟩
    rw [e] at h ⊢
    intro v μ' J' H' st rel' r
    cases r with
    | tup ht rs =>
      refine ⟨_, _, rfl, rel'.jh.sqT ht, fun p hp => ?_⟩
      obtain ⟨st4, rel4⟩ := rel'.lay (o := .tup _) hp
      exact h _ _ _ _ (st.trans st4) rel4 (.tup (SqT.of upd_same) (st4.rus rs.reverse))
  | some (.ok (.lst us), S'), h =>
    have h : Fin' X.K T ec W (RV X.K) μ J ρ σ H (bindO (ma ρ S) fun u S => optO (uRev u) S) Q := h
    refine .inl ⟨ρ, S, μ, J, rel, ?_⟩
    rw [e] at h ⊢
    intro v μ' J' H' st rel' r
    cases r with
    | lst ht rs =>
      refine ⟨_, _, rfl, SqL.of (rel'.jh _ _ ht), fun p hp => ?_⟩
      obtain ⟨st4, rel4⟩ := rel'.lay (o := .lst _) hp
      exact h _ _ _ _ (st.trans st4) rel4 (.lst upd_same (st4.rus rs.reverse))
  | some (.ok .non, S'), h | some (.ok (.bl _), S'), h | some (.ok (.int _), S'), h | some (.ok (.str _), S'), h | some (.ok (.fz _), S'), h | some (.ok .emp, S'), h | some (.ok (.ref _), S'), h =>
    have h : Fin' X.K T ec W (RV X.K) μ J ρ σ H (bindO (ma ρ S) fun u S => optO (uRev u) S) Q := h
    rw [e] at h; exact h.elim
end
end Wy
end
section
set_option maxRecDepth 100000
set_option maxHeartbeats 2000000
namespace Wy
open PySem PySem.Spec PyProof.Rows L2
/-- a dict of the top: texts to ints -/
def DgOk (K : PySem.W.Frag) (w : World) (mg : Str → Option Value) (x : Str) (kvs : List (Str × Int)) : Prop :=
  ∃ d es n, mg x = some (.ref d) ∧ KDict K w d es n ∧ ∀ z : Str, ∃ r, PySem.W.nsIn K d z = some r ∧ ∀ i : Int, ∀ t, ∃ t', r.getD (.int i t) = .int ((kvs.lookup z).getD i) t'
section
variable {X : Cx} {T : List (Addr × Str)} {ec : Str → Addr} {W : WX}
variable {μ μ1 : List Addr} {J J1 H H1 : Hp} {ρ : En} {S : Sto} {σ : L2.St}
variable {a : Expr} {ma : En → Sto → UM U} {pos p1 p2 p3 : Pos} {k : Nat}
def tDg (K : PySem.W.Frag) (kvs : List (Str × Int)) (d : Int) (ty : TE) : TE := fun σ H Q => ty σ H fun y H2 => ∃ z : Str, y = .str z ∧ Q (.int ((kvs.lookup z).getD d)) H2
theorem pe_dg {x : Str} {kvs : List (Str × Int)} {dv : Int} {j : Nat} {apos cpos : Pos} {e : Expr} {ty : TE} (D : DgOk X.K X.w X.mg x kvs) (hg : Gl X x) (hdb : (x == ("__debug__" : Str)) = false) (he : PE X e ty) (m : M2 X (.Name x p1) "get" apos e (.Constant (.int dv) j p2) cpos) :
    PE X (.Call (.Attribute (.Name x p1) "get" apos) [e, .Constant (.int dv) j p2] [] cpos) (tDg X.K kvs dv ty) := by
  obtain ⟨d, es, n, hm, kd, hv⟩ := D
  refine ⟨fun pins s σ H Q I h => ?_⟩
  refine wpAny_Call_method m.base m.few m.line PySem.F.plainAttrs_dict PySem.F.slot_dict_get PySem.F.type_dict_get (ld_glob I hg hm ?_ hdb)
  refine ⟨kd_type kd I, fun b q => ?_, ?_⟩
  · cases q
    exact ⟨_, I.kIn _ _ kd.at_, rfl⟩
  rw [m.trees]
  have hf : PE X (.Constant (.int dv) j p2) (tC (.int dv)) := pe_int
  refine Calls.callWith_builtin rfl (Calls.evalArgs_plain (Calls.spliced_cons (thn (he.run pins s σ H _ I h) fun iv s2 ⟨y, H2, I2, ry, q2⟩ =>
    Calls.spliced_cons (thn (hf.run pins s2 σ H2 (fun v H3 => v = .int dv ∧ H3 = H2) I2 ⟨rfl, rfl⟩) fun fv s3 ⟨z, H3, I3, rz, ez, eh⟩ => Calls.spliced_nil ?_))))
  subst ez eh
  obtain ⟨zz, rfl, q⟩ := q2
  obtain ⟨t, rfl⟩ := (show ∃ t, iv = Value.str zz t from ry)
  obtain ⟨t2, rfl⟩ := (show ∃ t, fv = Value.int dv t from rz)
  obtain ⟨r, e1, e2⟩ := hv zz
  refine call_meetsIn PySem.F.slot_dict_get (kd_type kd I3) PySem.F.entry_dict_get (PySem.F.args_dict_get_3 _ _ _) (meets_dict_get_default (strKind X.prog X.w) d (PySem.strKind_is X.prog X.w zz t) kd.low _) ⟨_, PySem.W.mapOf_K (prog := X.prog) I3.kIn kd.at_ kd.lit, ?_⟩
  refine ⟨.int ((kvs.lookup zz).getD dv), _, I3.tok _, ?_, q⟩
  rw [PySem.W.find_K kd.at_ e1]
  obtain ⟨t', e3⟩ := e2 dv t2
  rw [e3]
  exact ⟨_, rfl⟩
theorem r_dget {x : Str} {kvs : List (Str × Int)} {dv : Int} {j : Nat} {apos cpos : Pos} {e : Expr} {m : En → Sto → UM U} (D : DgOk X.K X.w X.mg x kvs) (hg : Gl X x) (hdb : (x == ("__debug__" : Str)) = false) (hline : (apos.endLine == cpos.line) = true)
    (hs : starEach [e, .Constant (.int dv) j p2] X.env = [(false, eval e X.env), (false, eval (.Constant (.int dv) j p2) X.env)]) (he : PE X e (EV X T ec W m)) :
    PE X (.Call (.Attribute (.Name x p1) "get" apos) [e, .Constant (.int dv) j p2] [] cpos) (EV X T ec W fun ρ S => bindO (m ρ S) fun u S => match u with
    | .str s => pureO (.int ((kvs.lookup s).getD dv)) S
    | _ => none) :=
  pe_imp (pe_dg D hg hdb he ⟨rfl, by rw [hs]; rfl, hline, by rw [hs]; rfl⟩) fun σ H Q ⟨ρ, S, μ, J, rel, h⟩ => by
    refine tx_mono (tx_bind stab_v rel h) fun y H1 ⟨u, S1, μ1, J1, st, rel1, ru, h1⟩ => ?_
    cases u with
    | str s => exact ⟨s, ru_str ru, fin_pure rel1 h1 (.int _)⟩
    | _ => exact h1.elim
end
end Wy
end
section
set_option maxRecDepth 100000
set_option maxHeartbeats 2000000
/-! sorted by text keys -/
namespace WyS
open PySem PySem.Spec PyProof.Rows Srt SrtO PySem.W
/-- later: more objects and tokens, nothing else -/
structure Lat (s s' : Shared) : Prop where
  eq : ∃ h' t', s' = { s with heap := h', toks := t' }
  kp : ∀ b o, s.heap.get? b = some o → s'.heap.get? b = some o
theorem Lat.refl (s : Shared) : Lat s s := ⟨⟨s.heap, s.toks, rfl⟩, fun _ _ h => h⟩
theorem Lat.trans {s s' s'' : Shared} (a : Lat s s') (b : Lat s' s'') : Lat s s'' := by
  obtain ⟨⟨h1, t1, rfl⟩, k1⟩ := a
  obtain ⟨⟨h2, t2, rfl⟩, k2⟩ := b
  exact ⟨⟨h2, t2, rfl⟩, fun b o e => k2 b o (k1 b o e)⟩
def ltV (v u : Value) : Bool := decide ((strOf v).cps.toList < (strOf u).cps.toList)
def ltK (p q : Keyed) : Bool := ltV p.1 q.1
theorem lt_asymL {a b : List Nat} (h : a < b) : ¬ b < a := fun k => absurd (List.lt_trans h k) (List.lt_irrefl a)
theorem swoK : Swo ltK := ⟨fun x y h => by
    have h : (strOf x.1).cps.toList < (strOf y.1).cps.toList := of_decide_eq_true h
    exact decide_eq_false (lt_asymL h), fun x y z h1 h2 => by
    have h1 : ¬ (strOf y.1).cps.toList < (strOf x.1).cps.toList := of_decide_eq_false h1
    have h2 : ¬ (strOf z.1).cps.toList < (strOf y.1).cps.toList := of_decide_eq_false h2
    exact decide_eq_false (List.not_lt.mpr (List.le_trans (List.not_lt.mp h1) (List.not_lt.mp h2)))⟩
section
variable {prog : Program} {w : World} {A : Around} {E : Value → Shared → Prop} {s : Shared}
theorem cmpK {vs : List Value} (s : Shared) (hv : ∀ v ∈ vs, ∃ x t, v = Value.str x t) : Cmp prog w A s oneType' (fun p => p.1 ∈ vs) ltK := fun p q hp hq => by
  obtain ⟨x, t, e1⟩ := hv _ hp
  obtain ⟨y, u, e2⟩ := hv _ hq
  have e : ltK p q = decide (x.cps.toList < y.cps.toList) := by
    show ltV p.1 q.1 = _
    rw [e1, e2] <;> rfl
  rw [e1, e2, e]
  exact kas_lt_str ⟨rfl, rfl⟩
theorem fold_keys {body : Value → PUnit → Sem (ForInStep PUnit)} {P : List Value → Shared → Prop} {key : Value → Str} {n : Nat} {vs0 : List Value}
    (hb : ∀ x ks s, x ∈ vs0 → ks.length < n → P ks s → wpAny (model prog w) A (body x ⟨⟩) (fun r s' => r = .yield ⟨⟩ ∧ ∃ t, P (ks ++ [.str (key x) t]) s') E s) :
    ∀ (r ks : List Value) (s : Shared), (∀ x ∈ r, x ∈ vs0) → ks.length + r.length = n → P ks s →
      wpAny (model prog w) A (forIn r PUnit.unit body) (fun _ s' => ∃ ks', StrsAre ks' (r.map key) ∧ P (ks ++ ks') s') E s
  | [], ks, s, _, _, h => by
    rw [List.forIn_nil]
    exact wpAny_pure ⟨[], .nil, by simpa using h⟩
  | x :: r, ks, s, hm, hl, h => by
    rw [List.length_cons] at hl
    rw [List.forIn_cons]
    refine wpAny_bind (wpAny_mono (hb x ks s (hm x List.mem_cons_self) (by omega) h) (fun q s' hq => ?_) fun _ _ x => x)
    obtain ⟨rfl, t, h2⟩ := hq
    show wpAny (model prog w) A (forIn r PUnit.unit body) _ E s'
    refine wpAny_mono (fold_keys hb r (ks ++ [.str (key x) t]) s' (fun y hy => hm y (List.mem_cons_of_mem _ hy)) (by rw [List.length_append, List.length_singleton]; omega) h2) (fun _ s'' h3 => ?_) fun _ _ x => x
    obtain ⟨ks', h4, h5⟩ := h3
    exact ⟨.str (key x) t :: ks', .cons _ _ h4, by simpa using h5⟩
def KeyOk (prog : Program) (w : World) (A : Around) (f : Value) (s : Shared) (v : Value) (k : Str) : Prop :=
  ∀ s', Lat s s' → wpAny (model prog w) A (call f [v]) (fun u s'' => Lat s' s'' ∧ ∃ t, u = .str k t) (fun _ _ => False) s'
/-- how the store of keys and the list stand while the keys are made -/
structure Stands (s0 : Shared) (kS a : Addr) (e1 : Nat) (ks : List Value) (s : Shared) : Prop where
  lat : Lat s0 s
  k : ∃ c, s.heap.get? kS = some (seqObj "list" (List.toArray ks) c)
  a : s.heap.get? a = some (seqObj "list" #[] e1)
theorem tail_ {st : SortSt} {e1 : Nat} {kS a : Addr} {ks out : List Value} {s0 : Shared} {P : PySem.Fin → Shared → Prop} (S : Stands s0 kS a e1 ks s) (hka : kS ≠ a) (hk0 : s0.heap.get? kS = none) (ha0 : s0.heap.get? a = none) (hout : (arrOf st).map (·.2) = List.toArray out) (hz : out.length ≤ sizeLine) (hkz : ks.length ≤ sizeLine) (hf : failedOf st = none)
    (h : ∀ s', Lat s0 s' → (∃ e, s'.heap.get? a = some (seqObj "list" out.toArray e)) → P (.done (.ret .none)) s') : wpAny (model prog w) A (ksk_tail a false e1 (.ref kS) st) P E s := by
  obtain ⟨lat, ⟨c, hk⟩, ha⟩ := S
  have s1 := Heap.SameBut.update s.heap kS (Obj.mapSeq fun _ => (#[] : Array Value))
  have ha1 : (s.heap.update kS (Obj.mapSeq fun _ => (#[] : Array Value))).get? a = some (seqObj "list" #[] e1) := (s1.2 a (Ne.symm hka)).trans ha
  obtain ⟨c2, hc2⟩ : ∃ c2, ((s.heap.update kS (Obj.mapSeq fun _ => (#[] : Array Value))).update a (Obj.mapSeq fun _ => List.toArray out)).get? a = some (seqObj "list" (List.toArray out) c2) := ⟨_, get?_update_seq ha1 fun _ => List.toArray out⟩
  unfold ksk_tail
  try dsimp only
  rw [hout]
  refine wpAny_bind (listUpdate_at hk rfl ?_ (by rw [List.size_toArray]; exact hkz) (Nat.zero_le _))
  refine wpAny_bind (wpAny_letGo ?_)
  refine wpAny_bind (seqEpoch_at ha1 rfl ?_)
  refine wpAny_bind (listUpdate_at ha1 rfl ?_ (Nat.zero_le _) (Nat.le_trans (Nat.le_of_eq (by simp)) (Nat.le_succ_of_le hz)))
  rw [hf]
  simp only [bne_self_eq_false, Bool.false_eq_true, if_false]
  refine wpAny_pure (h _ ?_ ⟨c2, hc2⟩)
  obtain ⟨⟨h', t', rfl⟩, kp⟩ := lat
  refine ⟨⟨_, _, rfl⟩, fun b o e => ?_⟩
  have hb1 : b ≠ kS := fun z => by subst z; rw [hk0] at e; cases e
  have hb2 : b ≠ a := fun z => by subst z; rw [ha0] at e; cases e
  show (((h'.update kS _).update a _)).get? b = some o
  rw [Heap.get?_update_ne _ _ _ _ hb2, Heap.get?_update_ne _ _ _ _ hb1]
  exact kp b o e
theorem zipKeys : ∀ {ks vs : List Value} {key : Value → Str}, StrsAre ks (vs.map key) → ∀ p ∈ ks.zip vs, strOf p.1 = key p.2 ∧ p.1 ∈ ks ∧ p.2 ∈ vs
  | [], _, _, _, p, hp => by simp at hp
  | k :: ks, [], _, h, p, hp => by simp at hp
  | k :: ks, v :: vs, key, h, p, hp => by
    cases h with
    | cons y t h =>
      rw [List.zip_cons_cons] at hp
      rcases List.mem_cons.mp hp with rfl | hp
      · exact ⟨rfl, List.mem_cons_self, List.mem_cons_self⟩
      · obtain ⟨h1, h2, h3⟩ := zipKeys h p hp
        exact ⟨h1, List.mem_cons_of_mem _ h2, List.mem_cons_of_mem _ h3⟩
theorem strs_len : ∀ {ks : List Value} {ss : List Str}, StrsAre ks ss → ks.length = ss.length
  | _, _, .nil => rfl
  | _, _, .cons _ _ h => by simp [strs_len h]
def ltc (a b : Str) : Bool := decide (a.cps.toList < b.cps.toList)
theorem end_ {e1 : Nat} {kS a : Addr} {ks vs : List Value} {key : Value → Str} {s0 : Shared} {P : PySem.Fin → Shared → Prop} (S : Stands s0 kS a e1 ks s) (hka : kS ≠ a) (hk0 : s0.heap.get? kS = none) (ha0 : s0.heap.get? a = none) (hks : StrsAre ks (vs.map key)) (hz : vs.length ≤ sizeLine)
    (h : ∀ out s', out.Perm vs → out.Pairwise (fun x y => ltc (key y) (key x) = false) → Lat s0 s' → (∃ e, s'.heap.get? a = some (seqObj "list" (List.toArray out) e)) → P (.done (.ret .none)) s') :
    wpAny (model prog w) A (ksk_end a false vs.toArray e1 (.ref kS) (List.toArray ks)) P E s := by
  have hl : ks.length = vs.length := by rw [strs_len hks, List.length_map]
  have hkz : ks.length ≤ sizeLine := by rw [hl]; exact hz
  have ez : ((List.toArray ks).zip vs.toArray).toList = ks.zip vs := by simp
  have fin : ∀ st' : SortSt, Srtd ltK (arrOf st').toList → (arrOf st').toList.Perm (ks.zip vs) → failedOf st' = none → wpAny (model prog w) A (ksk_tail a false e1 (.ref kS) st') P E s := by
    intro st' h1 h2 hf
    refine tail_ (out := (arrOf st').toList.map (·.2)) S hka hk0 ha0 (by rw [← Array.toList_map, Array.toArray_toList]) ?_ hkz hf fun s' l e => h _ s' ?_ ?_ l e
    · rw [List.length_map, h2.length_eq, List.length_zip]; omega
    · have q := h2.map (·.2)
      rw [List.map_snd_zip (by omega)] at q
      exact q
    · refine List.pairwise_map.mpr ?_
      refine List.Pairwise.imp_of_mem (fun {x y} hx hy hxy => ?_) h1
      have e1 := (zipKeys hks x (h2.mem_iff.mp hx)).1
      have e2 := (zipKeys hks y (h2.mem_iff.mp hy)).1
      have hxy : ltV y.1 x.1 = false := hxy
      unfold ltV at hxy
      rw [e1, e2] at hxy
      exact hxy
  unfold ksk_end
  try dsimp only
  rw [if_neg Bool.false_ne_true]
  by_cases h2 : vs.toArray.size < 2
  · rw [if_pos h2, if_pos h2]
    refine wpAny_bind (wpAny_pure ?_)
    rw [StateT.run_pure]
    refine wpAny_bind (wpAny_pure ?_)
    try dsimp only
    refine fin (SortSt.mk' general' ((List.toArray ks).zip vs.toArray) #[] 7 none) ?_ ?_ rfl
    · show Srtd ltK ((List.toArray ks).zip vs.toArray).toList
      rw [ez]
      have : (ks.zip vs).length < 2 := by rw [List.length_zip]; simp at h2; omega
      match hq : ks.zip vs, this with
      | [], _ => exact List.Pairwise.nil
      | [x], _ => exact List.pairwise_singleton _ _
    · show ((List.toArray ks).zip vs.toArray).toList.Perm _
      rw [ez]
  · rw [if_neg h2, if_neg h2]
    have hkind : keyKind' (List.toArray ks) = pure oneType' := by
      have h2' : 2 ≤ ks.length := by simp at h2; omega
      match ks, h2', hks with
      | v1 :: v2 :: r, _, hks => exact keyKind_strs hks
    rw [hkind]
    refine wpAny_bind (wpAny_pure ?_)
    have hall : AllL (fun p : Keyed => p.1 ∈ ks) ((List.toArray ks).zip vs.toArray).toList := fun p hm => by
      rw [ez] at hm
      exact (zipKeys hks p hm).2.1
    refine wpAny_bind (wpAny_mono (wpS_sortO (st0 := SortSt.mk' oneType' ((List.toArray ks).zip vs.toArray) #[] 7 none)
      (Q := fun _ st' => Srtd ltK (arrOf st').toList ∧ Stb ltK (arrOf st').toList ((List.toArray ks).zip vs.toArray).toList ∧ failedOf st' = none) swoK (cmpK s hks.all) rfl hall rfl rfl fun st' a1 a2 a3 => ⟨a1, a2, a3⟩) ?_ fun _ _ e => e)
    rintro ⟨⟨⟩, st'⟩ s' ⟨rfl, hp1, hp2, hf⟩
    try dsimp only
    refine fin st' hp1 ?_ hf
    have := hp2.perm
    rw [ez] at this
    exact this
theorem tree_ {a : Addr} {f : Value} {vs : List Value} {n : Nat} {key : Value → Str} {s0 : Shared} {P : PySem.Fin → Shared → Prop} (lat : Lat s0 s) (ho : s.heap.get? a = some (seqObj "list" vs.toArray n)) (ha0 : s0.heap.get? a = none) (hz : vs.length ≤ sizeLine)
    (hk : ∀ v ∈ vs, ∀ s', Lat s0 s' → wpAny (model prog w) A (call f [v]) (fun u s'' => Lat s' s'' ∧ ∃ t, u = .str (key v) t) (fun _ _ => False) s')
    (h : ∀ out s', out.Perm vs → out.Pairwise (fun x y => ltc (key y) (key x) = false) → Lat s0 s' → (∃ e, s'.heap.get? a = some (seqObj "list" (List.toArray out) e)) → P (.done (.ret .none)) s') :
    wpAny (model prog w) A (ksk_tree a f false) P E s := by
  have ha : a < s.heap.objs.size := Heap.lt_size ho
  obtain ⟨e1, ho1⟩ : ∃ e1, (s.heap.update a (Obj.mapSeq fun _ => (#[] : Array Value))).get? a = some (seqObj "list" #[] e1) := ⟨_, get?_update_seq ho fun _ => #[]⟩
  have hkS : ((s.heap.update a (Obj.mapSeq fun _ => (#[] : Array Value))).push (seqObj "tuple" vs.toArray 0)).objs.size = s.heap.objs.size + 1 := by rw [size_push', Heap.size_update]
  have hk0 : s0.heap.get? (s.heap.objs.size + 1) = none := by
    cases q : s0.heap.get? (s.heap.objs.size + 1) with
    | none => rfl
    | some o => exact absurd (Heap.lt_size (lat.kp _ _ q)) (Nat.not_lt.mpr (Nat.le_succ _))
  have hka : s.heap.objs.size + 1 ≠ a := Nat.ne_of_gt (Nat.lt_succ_of_lt ha)
  unfold ksk_tree
  refine wpAny_bind (listItems_at ho rfl ?_)
  refine wpAny_bind (listUpdate_at ho rfl ?_ (by rw [List.size_toArray]; exact hz) (Nat.zero_le _))
  refine wpAny_bind (seqEpoch_at ho1 rfl ?_)
  refine wpAny_bind (wpAny_newTuple ?_ (by show vs.length ≤ _; exact hz))
  refine wpAny_bind (wpAny_newList ?_ (Nat.zero_le _))
  refine wpAny_holding ?_
  rw [hkS]
  have S0 : Stands s0 (s.heap.objs.size + 1) a e1 [] { s with heap := ((s.heap.update a (Obj.mapSeq fun _ => (#[] : Array Value))).push (seqObj "tuple" vs.toArray 0)).push (seqObj "list" #[] 0) } := by
    obtain ⟨⟨h', t', rfl⟩, kp⟩ := lat
    refine ⟨⟨⟨_, _, rfl⟩, fun b o e => ?_⟩, ⟨0, ?_⟩, Heap.get?_push_of_some _ (Heap.get?_push_of_some _ ho1)⟩
    · have hb : b ≠ a := fun z => by subst z; rw [ha0] at e; cases e
      exact Heap.get?_push_of_some _ (Heap.get?_push_of_some _ ((Heap.get?_update_ne _ _ _ _ hb).trans (kp b o e)))
    · rw [← hkS]; exact Heap.get?_push_size _ rfl
  show wpAny (model prog w) A (ksk_rest a f false vs.toArray e1 (.ref (s.heap.objs.size + 1))) P E { s with heap := ((s.heap.update a (Obj.mapSeq fun _ => (#[] : Array Value))).push (seqObj "tuple" vs.toArray 0)).push (seqObj "list" #[] 0) }
  unfold ksk_rest
  refine wpAny_bind (wpAny_rule ?_)
  first
    | rw [List.forIn_toArray]
    | (rw [← Array.forIn_toList]; simp only [List.toList_toArray])
    | rw [← Array.forIn_toList]
  refine wpAny_bind (wpAny_mono (fold_keys (P := fun ks s' => Stands s0 (s.heap.objs.size + 1) a e1 ks s') (key := key) (n := vs.length) (vs0 := vs) (fun x ks s1 hx hlt S => ?_) vs [] _ (fun _ h => h) (by simp) S0) (fun _ s' hd => ?_) fun _ _ x => x)
  · refine wpAny_bind (wpAny_attempt (wpAny_mono (hk x hx s1 S.lat) (fun k s2 hk2 => ?_) fun _ _ hF => hF.elim))
    obtain ⟨l2, t, rfl⟩ := hk2
    obtain ⟨c, hkc⟩ := S.k
    have nk := l2.kp _ _ hkc
    have na := l2.kp _ _ S.a
    have ea : (List.toArray ks).push (Value.str (key x) t) = List.toArray (ks ++ [Value.str (key x) t]) := by simp
    obtain ⟨c2, hc2⟩ : ∃ c2, (s2.heap.update (s.heap.objs.size + 1) (Obj.mapSeq (·.push (Value.str (key x) t)))).get? (s.heap.objs.size + 1) = some (seqObj "list" (List.toArray (ks ++ [Value.str (key x) t])) c2) := ⟨_, by rw [← ea]; exact get?_update_seq nk (·.push (Value.str (key x) t))⟩
    try dsimp only
    refine wpAny_bind (listUpdate_at nk rfl ?_ (by rw [List.size_toArray]; omega) (Nat.le_trans (Nat.le_of_eq (Array.size_push ..)) (by rw [List.size_toArray]; omega)))
    refine wpAny_pure ⟨rfl, t, ?_⟩
    have l02 := S.lat.trans l2
    obtain ⟨⟨h', t', rfl⟩, kp⟩ := l02
    refine ⟨⟨⟨_, _, rfl⟩, fun b o e => ?_⟩, ⟨c2, hc2⟩, (Heap.get?_update_ne _ _ _ _ (Ne.symm hka)).trans na⟩
    have hb : b ≠ s.heap.objs.size + 1 := fun z => by subst z; rw [hk0] at e; cases e
    exact (Heap.get?_update_ne _ _ _ _ hb).trans (kp b o e)
  · obtain ⟨ks', h1, S⟩ := hd
    obtain ⟨c, hkc⟩ := S.k
    try dsimp only
    rw [List.nil_append] at hkc S
    refine wpAny_bind (listItems_at hkc rfl ?_)
    exact end_ S hka hk0 ha0 h1 hz h
theorem sorted_key {l q : Addr} {vs : List Value} {key : Value → Str} {Q : Value → Shared → Prop} (hl : s.heap.IsList l vs.toArray) (hz : vs.length ≤ sizeLine)
    (hk : ∀ v ∈ vs, ∀ s', Lat s s' → wpAny (model prog w) A.in1.in1 (call (.ref q) [v]) (fun u s'' => Lat s' s'' ∧ ∃ t, u = .str (key v) t) (fun _ _ => False) s')
    (h : ∀ out D s', out.Perm vs → out.Pairwise (fun x y => ltc (key y) (key x) = false) → Lat s s' → s.heap.objs.size ≤ D → (∃ e, s'.heap.get? D = some (seqObj "list" (List.toArray out) e)) → Q (.ref D) s') :
    wpAny (model prog w) A (call (.builtin "sorted") [.ref l] [(Str.ofString "key", .ref q)]) Q E s := by
  refine call_function_entry_kw kind_sorted plain_sorted entry_sorted (ksk_s1 _ _) ?_
  unfold Builtin.«sorted»
  refine wpAny_bind (m := checkCount "sorted" 1 1 _) (wpAny_pure ?_)
  refine wpAny_bind (collect_list hl ?_ hz)
  refine wpAny_bind (wpAny_newList ?_ hz)
  have hsz : ((s.heap.push (seqObj "list" #[] 0)).update s.heap.objs.size (Obj.mapSeq (· ++ vs.toArray))).objs.size = s.heap.objs.size + 1 := by
    rw [Heap.size_update, size_push']
  have hoL : (((s.heap.push (seqObj "list" #[] 0)).update s.heap.objs.size (Obj.mapSeq (· ++ vs.toArray))).push (seqObj "list" vs.toArray 0)).get? (s.heap.objs.size + 1) = some (seqObj "list" vs.toArray 0) := by
    rw [← hsz]; exact Heap.get?_push_size _ rfl
  have keep : ∀ b o, s.heap.get? b = some o → (((s.heap.push (seqObj "list" #[] 0)).update s.heap.objs.size (Obj.mapSeq (· ++ vs.toArray))).push (seqObj "list" vs.toArray 0)).get? b = some o := fun b o q => by
    have hlt : b < s.heap.objs.size := Heap.lt_size q
    refine Heap.get?_push_of_some _ ?_
    rw [Heap.get?_update_ne _ _ _ _ (Nat.ne_of_lt hlt)]
    exact Heap.get?_push_of_some _ q
  have lat : Lat s { s with heap := ((s.heap.push (seqObj "list" #[] 0)).update s.heap.objs.size (Obj.mapSeq (· ++ vs.toArray))).push (seqObj "list" vs.toArray 0) } := ⟨⟨_, _, rfl⟩, keep⟩
  show wpAny _ _ _ _ _ { s with heap := ((s.heap.push (seqObj "list" #[] 0)).update s.heap.objs.size (Obj.mapSeq (· ++ vs.toArray))).push (seqObj "list" vs.toArray 0) }
  rw [hsz]
  refine wpAny_bind (wpAny_holding (wpAny_call_entry_kw slot_list_sort ⟨_, hoL, rfl⟩ entry_list_sort ?_ (ksk_l1 _ _)))
  rw [ksk_t1]
  refine tree_ lat hoL (Heap.get?_none_of_le (Nat.le_succ _)) hz hk fun out s' h1 h2 h3 h4 => ⟨_, rfl, ?_⟩
  exact wpAny_pure ⟨_, rfl, h out _ s' h1 h2 h3 (Nat.le_succ _) h4⟩
end
end WyS
end
section
set_option maxRecDepth 100000
set_option maxHeartbeats 2000000
namespace WyS
open PySem PySem.Spec PyProof.Rows L2
section
variable {prog : Program} {w : World} {A : Around} {E : Value → Shared → Prop} {s : Shared}
/-- a lambda of one name that says the name's first item -/
theorem lam_key {f c' t : Addr} {q a : Str} {params : Arguments} {scope : Scope} {cl : List (Str × Addr)} {pm ctv : Value} {j : Nat} {p1 p2 p3 : Pos} {its : Array Value} {k : Str} {tok : Tok}
    (of : s.heap.get? f = some (PySem.W.kla_obj "<lambda>" q params (.Subscript (.Name a p1) (.Constant (.int 0) j p2) p3) scope cl pm c' ctv)) (hcr : s.heap.CodeRec (.ref c') q) (hd : A.depth < recursionLimit) (nl : s.heap.NoLimit)
    (hbind : ∀ v, bindArgs (PySem.W.kla_fn "<lambda>" q params (.Subscript (.Name a p1) (.Constant (.int 0) j p2) p3) scope cl pm (.ref c') ctv) ⟨[v], []⟩ = pure [(a, v)])
    (hk : scope.kind = .function) (hco : scope.isCoroutine = false) (hgen : scope.isGenerator = false) (hcell : ∀ x ∈ scope.names, x.2 ≠ .cell) (hloc : scope.names.lookup a = some .local) (hdb : (a == ("__debug__" : Str)) = false)
    (ht : IsTup s.heap t its) (h0 : its[0]? = some (.str k tok)) (hz : its.size ≤ sizeLine) :
    wpAny (model prog w) A (call (.ref f) [.ref t]) (fun u s'' => Lat s s'' ∧ ∃ t, u = .str k t) (fun _ _ => False) s := by
  refine wpAny_call ?_
  refine PySem.W.kla_callFunE hd of rfl hco hgen rfl hcr ?_
  rw [hbind]
  refine wpAny_pure (wpAny_newFunctionEnv hcell (fun y hy => by
    have : y = (a, Value.ref t) := by simpa using hy
    subst this; exact hloc) (fun h₁ hns hsb => ⟨nl.fresh _ hsb, ?_⟩) hk)
  show codeAny _ _ (.expr _ (PySem.W.envX q scope s.heap.objs.size f (.ref c') cl)) _ _
  have kp : ∀ b o, s.heap.get? b = some o → h₁.get? b = some o := fun b o e => hsb.extBut b o (Nat.ne_of_lt (Heap.lt_size e)) (Heap.get?_push_of_some _ e)
  refine PySem.W.kla_codeExpr ?_
  refine Subscript_ (wpAny_Name (wpAny_loadName_local (env := PySem.W.envX q scope s.heap.objs.size f (.ref c') cl) (v := .ref t) hk hloc hns (by simp) ?_) hdb)
  refine wpAny_Constant_int ?_
  obtain ⟨ot, h1, h2, n, h3⟩ := ht
  have ht1 : IsTup h₁ t its := ⟨ot, kp _ _ h1, h2, n, h3⟩
  have hpos : 0 < its.size := by
    have := Array.getElem?_eq_some_iff.mp h0
    exact this.1
  refine subscriptTail_builtinR (x := .str k tok) (T := "tuple") (id := "tuple.__getitem__") ⟨ot, kp _ _ h1, h2⟩ slot_tuple_getitem.lookup
    (getItem_tuple (j := 0) ht1 (by omega) (by omega) ?_ h0 ⟨rfl, ?_⟩) rfl
  · show seqIndex? 0 its.size = some 0
    unfold seqIndex?
    simp
    exact fun z => by rw [z] at hpos; exact absurd hpos (by simp)
  · exact ⟨⟨⟨_, _, rfl⟩, kp⟩, tok, rfl⟩
end
theorem sqT_extN {K : PySem.W.Frag} {H H' : Hp} {a : Addr} {xs : List V} (e : LamX.ExtN H H') (h : SqT K H a xs) : SqT K H' a xs := by
  rcases h with h | h
  · refine .inl ?_
    rcases h with h | ⟨o, h⟩
    · exact .inl (e _ _ h (fun ps z => by cases z))
    · exact .inr ⟨o, e _ _ h (fun ps z => by cases z)⟩
  · exact .inr h
theorem sqL_extN {K : PySem.W.Frag} {H H' : Hp} {a : Addr} {xs : List V} (e : LamX.ExtN H H') (h : SqL K H a xs) : SqL K H' a xs := by
  rcases h with h | h
  · refine .inl ?_
    rcases h with h | ⟨o, h⟩
    · exact .inl (e _ _ h (fun ps z => by cases z))
    · exact .inr ⟨o, e _ _ h (fun ps z => by cases z)⟩
  · exact .inr h
/-- sorted(xs, key=lambda a: a[0]) of tuples that begin with a text -/
def tSortKey (K : PySem.W.Frag) (T : List (Addr × Str)) (ta : TE) : TE := fun σ H Q => ta σ H fun x H1 => ∃ (a : Addr) (ps : List (Addr × Str)), x = .ref a ∧ SqL K H1 a ((ps.map (·.1)).map V.ref) ∧ (∀ p ∈ ps, ∃ r, SqT K H1 p.1 (.str p.2 :: r)) ∧ LamX.Tabs T H1 ∧
  ∀ (H2 : Hp) (os : List (Addr × Str)) (p : Addr), LamX.ExtN H1 H2 → LamX.Tabs T H2 → os.Perm ps → os.Pairwise (fun x y => ltc y.2 x.2 = false) → H2 p = none → Q (.ref p) (upd H2 p (.lst ((os.map (·.1)).map V.ref)))
theorem lookup_mem2 {ps : List (Addr × Str)} : ∀ {p : Addr × Str}, p ∈ ps → ∃ k, ps.lookup p.1 = some k ∧ (p.1, k) ∈ ps := by
  induction ps with
  | nil => intro p h; simp at h
  | cons q ps ih =>
    intro p h
    by_cases e : p.1 = q.1
    · refine ⟨q.2, by rw [List.lookup_cons, e]; simp, ?_⟩
      rw [e]; exact List.mem_cons_self
    · have hp : p ∈ ps := by
        rcases List.mem_cons.mp h with rfl | h
        · exact absurd rfl e
        · exact h
      obtain ⟨k, h1, h2⟩ := ih hp
      refine ⟨k, ?_, List.mem_cons_of_mem _ h2⟩
      rw [List.lookup_cons]
      have : (p.1 == q.1) = false := by simpa using e
      rw [this]
      exact h1
theorem vals_refs : ∀ {ts : List Addr} {us : List Value}, Vals (ts.map V.ref) us → us = ts.map Value.ref
  | [], _, .nil => rfl
  | t :: ts, _, .cons h r => by
    have e := vals_refs r
    cases h
    rw [e] <;> rfl
theorem of_refs : ∀ ts : List Addr, Vals (ts.map V.ref) (ts.map Value.ref)
  | [] => .nil
  | t :: ts => .cons rfl (of_refs ts)
def adO : Value → Addr
  | .ref a => a
  | _ => 0
theorem ad_map (ts : List Addr) : (ts.map Value.ref).map adO = ts := by
  induction ts with
  | nil => rfl
  | cons t ts ih => simp [adO, ih]
theorem ref_ad {out : List Value} (h : ∀ v ∈ out, ∃ t, v = Value.ref t) : (out.map adO).map Value.ref = out := by
  induction out with
  | nil => rfl
  | cons v r ih =>
    obtain ⟨t, rfl⟩ := h v List.mem_cons_self
    simp only [List.map_cons, adO]
    rw [ih fun u hu => h u (List.mem_cons_of_mem _ hu)]
theorem pe_sortKey {X : Cx} {T : List (Addr × Str)} {c P : Addr} {k : Nat} {e : Expr} {ta : TE} {params : Arguments} {a : Str} {scope : Scope} {j : Nat} {p p1 p2 p3 lpos kpos pos : Pos}
    (TB : LamX.TabB X.base X.mg c P) (hcode : X.env.code = .ref c) (hmT : (P, X.env.qual ++ "<lambda>") ∈ T) (hu : ∀ p ∈ T, p.1 = P → p.2 = X.env.qual ++ "<lambda>") (hr : Room (k + 1) X.A)
    (hdef : defaultsOf params X.env = ([], [])) (hfree : ∀ y ∈ scope.names, y.2 = .free → ∃ c, X.env.cells.lookup y.1 = some c)
    (hbind : ∀ (q : Str) (cl : List (Str × Addr)) (pm cv ctv v : Value), bindArgs (PySem.W.kla_fn "<lambda>" q params (.Subscript (.Name a p1) (.Constant (.int 0) j p2) p3) scope cl pm cv ctv) ⟨[v], []⟩ = pure [(a, v)])
    (hk : scope.kind = .function) (hco : scope.isCoroutine = false) (hgen : scope.isGenerator = false) (hcell : ∀ x ∈ scope.names, x.2 ≠ .cell) (hloc : scope.names.lookup a = some .local) (hdb : (a == ("__debug__" : Str)) = false)
    (hg : Gl X "sorted") (hm : X.mg "sorted" = none) (hse : starEach [e] X.env = [(false, eval e X.env)]) (ha : PE X e ta) :
    PE X (.Call (.Name "sorted" p) [e] [⟨some "key", .Lambda params (.Subscript (.Name a p1) (.Constant (.int 0) j p2) p3) scope lpos, kpos⟩] pos) (tSortKey X.K T ta) := by
  have hs0 : starEach ([] : List Expr) X.env = [] := rfl
  refine ⟨fun pins s σ H Q I h => ?_⟩
  refine wpAny_Call_Name_kw (ld_blt I hg hm (by decide +kernel : bootBuiltins "sorted" = some (.builtin "sorted")) ?_ (by decide) (by decide))
  refine PyProof.Rows.callWith_kw ?_ (by rw [hse, hs0]; rfl) (by rw [hse]; rfl) rfl rfl
  have h1 : backTo pos (starEach [e] X.env) = [(false, eval e X.env)] := by rw [hse]; rfl
  rw [h1]
  refine Calls.spliced_cons (thn (ha.run pins s σ H _ I h) fun u s1 ⟨x, H1, I1, r1, q1⟩ => Calls.spliced_nil ?_)
  obtain ⟨l, ps, rfl, hl, hkey, hT, q⟩ := q1
  cases r1
  refine PyProof.Rows.kws_cons (LamX.lam_make2 I1 TB hcode hmT hu hT hdef hfree fun f c' pm ctv H2 s2 I2 eN T2 hf hfn hfr hco' => PyProof.Rows.kws_nil ?_)
  obtain ⟨its, rv, hl2, hz⟩ := I2.list (sqL_extN eN hl)
  obtain rfl := vals_refs rv
  obtain ⟨⟨oc, vs, t, hoc, hdc, hvc⟩, _, _⟩ := I2.hok c' _ hco'
  have first : ∀ p ∈ ps, ∃ its tk, IsTup s2.heap p.1 its ∧ its[0]? = some (.str p.2 tk) ∧ its.size ≤ sizeLine := fun p hp => by
    obtain ⟨r, hr1⟩ := hkey p hp
    obtain ⟨its2, rv2, hl3, hz2⟩ := I2.tuple (sqT_extN eN hr1)
    cases rv2 with
    | @cons _ u0 _ us0 h5 h6 =>
      obtain ⟨tk, rfl⟩ := (show ∃ t, u0 = Value.str p.2 t from h5)
      refine ⟨_, tk, hl3, rfl, ?_⟩
      rw [List.size_toArray]; have := h6.length; simp only [List.length_cons] at hz2 ⊢; omega
  have func : ∀ p ∈ ps, ∀ k, (p.1, k) ∈ ps → k = p.2 := fun p hp k hk => by
    obtain ⟨i1, t1, ⟨o1, a1, _, n1, a3⟩, a4, _⟩ := first p hp
    obtain ⟨i2, t2, ⟨o2, b1, _, n2, b3⟩, b4, _⟩ := first (p.1, k) hk
    have b1 : s2.heap.get? p.1 = some o2 := b1
    rw [a1] at b1; cases b1
    rw [a3] at b3; cases b3
    rw [a4] at b4; cases b4
    rfl
  have key1 : ∀ p ∈ ps, (ps.lookup p.1).getD Str.empty = p.2 := fun p hp => by
    obtain ⟨k, e1, e2⟩ := lookup_mem2 hp
    rw [e1]
    exact func p hp k e2
  have hlen : ((ps.map (·.1)).map Value.ref).length ≤ sizeLine := by
    simp only [List.length_map] at hz ⊢; exact hz
  refine sorted_key (l := l) (q := f) (vs := (ps.map (·.1)).map Value.ref) (key := fun v => (ps.lookup (adO v)).getD Str.empty) hl2.isList hlen (fun v hv s' lat => ?_) fun out D s' hp hs lat hD hg => ?_
  · obtain ⟨t1, ht1, rfl⟩ := List.mem_map.mp hv
    obtain ⟨p0, hp0, rfl⟩ := List.mem_map.mp ht1
    obtain ⟨its2, tk, ⟨ot, g1, g2, n, g3⟩, g4, g5⟩ := first p0 hp0
    refine lam_key (tok := tk) (its := its2) (lat.kp _ _ hf) ⟨c', oc, vs, t, rfl, lat.kp _ _ hoc, hdc, hvc⟩ ?_ (I2.nolimit.keeps lat.kp) (fun v => hbind _ _ _ _ _ v) hk hco hgen hcell hloc hdb ⟨ot, lat.kp _ _ g1, g2, n, g3⟩ ?_ g5
    · exact (hr.dp |> fun d => (by show X.A.depth < _; omega))
    · show its2[0]? = some (Value.str ((ps.lookup p0.1).getD Str.empty) tk)
      rw [key1 p0 hp0]; exact g4
  · have hall : ∀ v ∈ out, ∃ t, v = Value.ref t := fun v hv => by
      obtain ⟨t1, _, e1⟩ := List.mem_map.mp (hp.mem_iff.mp hv)
      exact ⟨t1, e1.symm⟩
    have eo := ref_ad hall
    have hp2 : (out.map adO).Perm (ps.map (·.1)) := by
      have := hp.map adO
      rwa [ad_map] at this
    have eps : (ps.map (·.1)).map (fun t => (t, (ps.lookup t).getD Str.empty)) = ps := by
      rw [List.map_map]
      have : ∀ p ∈ ps, ((fun t => (t, (ps.lookup t).getD Str.empty)) ∘ (·.1)) p = id p := fun p hp => by
        show (p.1, (ps.lookup p.1).getD Str.empty) = p
        rw [key1 p hp]
      rw [List.map_congr_left this, List.map_id]
    have hp3 : ((out.map adO).map (fun t => (t, (ps.lookup t).getD Str.empty))).Perm ps := by
      have := hp2.map (fun t => (t, (ps.lookup t).getD Str.empty))
      rwa [eps] at this
    have hs3 : ((out.map adO).map (fun t => (t, (ps.lookup t).getD Str.empty))).Pairwise (fun x y => ltc y.2 x.2 = false) := List.pairwise_map.mpr (List.pairwise_map.mpr hs)
    have e3 : ((out.map adO).map (fun t => (t, (ps.lookup t).getD Str.empty))).map (·.1) = out.map adO := by
      rw [List.map_map]
      exact List.map_id _
    obtain ⟨⟨h', t', rfl⟩, kp⟩ := lat
    obtain ⟨ee, hg⟩ := hg
    have hq := q H2 _ D eN T2 hp3 hs3 (I2.hok.fresh hD)
    rw [e3] at hq
    refine ⟨.ref D, _, I2.laid (t' := t') (o := .lst ((out.map adO).map V.ref)) kp hD ?_, rfl, hq⟩
    refine ⟨?_, out, ee, ?_, hg⟩
    · simp only [List.length_map] at hlen ⊢
      have := hp2.length_eq
      simp only [List.length_map] at this
      omega
    · have := of_refs (out.map adO)
      rwa [eo] at this
end WyS
end
section
set_option maxRecDepth 100000
set_option maxHeartbeats 2000000
namespace Wy
open PySem PySem.Spec PyProof.Rows L2
/-! ### texts in order -/
theorem ltS_eq (a b : Str) : ltS a b = WyS.ltc a b := rfl
theorem ltS_antisymm {a b : Str} (h1 : ltS a b = false) (h2 : ltS b a = false) : a = b := by
  have h1 : ¬ a.cps.toList < b.cps.toList := of_decide_eq_false h1
  have h2 : ¬ b.cps.toList < a.cps.toList := of_decide_eq_false h2
  have e := List.le_antisymm (List.not_lt.mp h2) (List.not_lt.mp h1)
  cases a; cases b
  simp only [Str.mk.injEq]
  exact Array.toList_inj.mp e
theorem ltS_trans {a b c : Str} (h1 : ltS b a = false) (h2 : ltS c b = false) : ltS c a = false := by
  have h1 : ¬ b.cps.toList < a.cps.toList := of_decide_eq_false h1
  have h2 : ¬ c.cps.toList < b.cps.toList := of_decide_eq_false h2
  exact decide_eq_false (List.not_lt.mpr (List.le_trans (List.not_lt.mp h1) (List.not_lt.mp h2)))
theorem ltS_asymm {a b : Str} (h : ltS a b = true) : ltS b a = false := by
  have h : a.cps.toList < b.cps.toList := of_decide_eq_true h
  exact decide_eq_false fun k => absurd (List.lt_trans h k) (List.lt_irrefl _)
section
variable {α β : Type} {key : α → Str}
def Ord (key : α → Str) (l : List α) : Prop := l.Pairwise fun x y => ltS (key y) (key x) = false
theorem insS_perm (x : α) : ∀ l : List α, (insS key x l).Perm (x :: l)
  | [] => .refl _
  | y :: r => by
    unfold insS
    split
    · exact .refl _
    · exact ((insS_perm x r).cons y).trans (.swap x y r)
theorem srtS_perm : ∀ l : List α, (srtS key l).Perm l
  | [] => .refl _
  | x :: r => by
    show (insS key x (srtS key r)).Perm _
    exact (insS_perm x _).trans ((srtS_perm r).cons x)
theorem insS_ord (x : α) : ∀ {l : List α}, Ord key l → Ord key (insS key x l)
  | [], _ => List.pairwise_singleton _ _
  | y :: r, h => by
    obtain ⟨h1, h2⟩ := List.pairwise_cons.mp h
    unfold insS
    split
    · rename_i q
      refine List.pairwise_cons.mpr ⟨fun z hz => ?_, h⟩
      rcases List.mem_cons.mp hz with rfl | hz
      · exact ltS_asymm q
      · exact ltS_trans (ltS_asymm q) (h1 z hz)
    · rename_i q
      have q : ltS (key x) (key y) = false := by simpa using q
      refine List.pairwise_cons.mpr ⟨fun z hz => ?_, insS_ord x h2⟩
      rcases List.mem_cons.mp ((insS_perm x r).mem_iff.mp hz) with rfl | hz
      · exact q
      · exact h1 z hz
theorem srtS_ord : ∀ l : List α, Ord key (srtS key l)
  | [] => List.Pairwise.nil
  | x :: r => insS_ord x (srtS_ord r)
theorem insS_map (f : α → β) (k : β → Str) (x : α) : ∀ l : List α, (insS (fun a => k (f a)) x l).map f = insS k (f x) (l.map f)
  | [] => rfl
  | y :: r => by
    simp only [insS, List.map_cons]
    split
    · rfl
    · rw [List.map_cons, insS_map f k x r]
theorem srtS_map (f : α → β) (k : β → Str) : ∀ l : List α, (srtS (fun a => k (f a)) l).map f = srtS k (l.map f)
  | [] => rfl
  | x :: r => by
    show (insS (fun a => k (f a)) x (srtS (fun a => k (f a)) r)).map f = insS k (f x) (srtS k (r.map f))
    rw [insS_map, srtS_map f k r]
theorem ord_unique {a b : List α} (h : ∀ x ∈ a, ∀ y ∈ a, key x = key y → x = y) (p : a.Perm b) (ha : Ord key a) (hb : Ord key b) : a = b := by
  refine List.Perm.eq_of_pairwise (fun x y hx hy h1 h2 => ?_) ha hb p
  exact h x hx y (p.mem_iff.mpr hy) (ltS_antisymm h2 h1)
end
theorem ltc_cps : ∀ a b : List Nat, ltCps a b = decide (a < b)
  | [], [] => by simp [ltCps]
  | [], _ :: _ => by simp [ltCps]
  | _ :: _, [] => by simp [ltCps]
  | x :: a, y :: b => by
    rw [ltCps, ltc_cps a b]
    by_cases h : x < y
    · simp [h, List.cons_lt_cons_iff]
    · by_cases e : x = y
      · subst e; simp [List.cons_lt_cons_iff]
      · simp [h, e, List.cons_lt_cons_iff]
theorem sortedS_ord : ∀ {l : List Str}, sortedS l = true → Ord id l := by
  have key : ∀ (l : List Str) (p : Str), risingS p l = true → Ord id (p :: l) := fun l => by
    induction l with
    | nil => intro p _; exact List.pairwise_singleton _ _
    | cons x r ih =>
      intro p h
      simp only [risingS, Bool.and_eq_true, Bool.not_eq_true'] at h
      have h1 : ltS x p = false := by
        have := h.1
        rw [ltc_cps] at this
        exact this
      have h2 := ih x h.2
      refine List.pairwise_cons.mpr ⟨fun z hz => ?_, h2⟩
      rcases List.mem_cons.mp hz with rfl | hz
      · exact h1
      · exact ltS_trans h1 ((List.pairwise_cons.mp h2).1 z hz)
  intro l h
  cases l with
  | nil => exact List.Pairwise.nil
  | cons x r => exact key r x h
section
variable {X : Cx} {T : List (Addr × Str)} {ec : Str → Addr} {W : WX}
variable {μ μ1 : List Addr} {J J1 H H1 : Hp} {ρ : En} {S : Sto} {σ : L2.St}
variable {a : Expr} {ma : En → Sto → UM U} {pos p : Pos}
theorem ru_strK {K : PySem.W.Frag} {μ : List Addr} {J : Hp} {s : Str} {v : V} (h : RU K μ J (.str s) v) : v = .str s := by cases h; rfl
theorem strs_rus {K : PySem.W.Frag} {μ : List Addr} {J : Hp} : ∀ {us : List U} {vs : List V}, RUs K μ J us vs → ∀ {ss : List Str}, strsOf us = some ss → vs = ss.map V.str
  | _, _, .nil, ss, e => by simp only [strsOf, Option.some.injEq] at e; subst e; rfl
  | _, _, .cons (u := u) (us := us) h r, ss, e => by
    cases u with
    | str s =>
      simp only [strsOf, Option.map_eq_some_iff] at e
      obtain ⟨ss, e, rfl⟩ := e
      rw [strs_rus r e, ru_strK h] <;> rfl
    | _ => simp [strsOf] at e
theorem rus_strs {K : PySem.W.Frag} {μ : List Addr} {J : Hp} : ∀ ss : List Str, RUs K μ J (ss.map U.str) (ss.map V.str)
  | [] => RUs.nil
  | s :: r => RUs.cons (RU.str s) (rus_strs r)
theorem r_sortL (hg : Gl X "sorted") (hm : X.mg "sorted" = none) (he : starEach [a] X.env = [(false, eval a X.env)]) (ha : PE X a (EV X T ec W ma)) :
    PE X (.Call (.Name "sorted" p) [a] [] pos) (EV X T ec W fun ρ S => bindO (ma ρ S) fun u S => optO (uSort u) S) := by
  have he0 : starEach ([] : List Expr) X.env = [] := rfl
  refine pe_imp (pe_callB cr_sortedS hg hm (by decide +kernel) (pa_cons ha pa_nil (by rw [he, he0])) (by decide) (by decide) (by rw [he, he0]) rfl) fun σ H Q ⟨ρ, S, μ, J, rel, h⟩ => ?_
  refine tx_mono (tx_bind stab_v rel h) fun x H1 ⟨u, S1, μ1, J1, st, rel1, ru, h1⟩ => ?_
  obtain ⟨z, e, h1⟩ := fin_opt rel1 h1
  cases u with
  | lst us =>
    simp only [uSort] at e
    split at e
    · rename_i hl
      simp only [Option.map_eq_some_iff] at e
      obtain ⟨ss, e1, rfl⟩ := e
      cases ru with
      | lst ht r =>
        have ev := strs_rus r e1
        subst ev
        refine ⟨_, ss, rfl, SqL.of (rel1.jh _ _ ht), ?_, fun ys p hp hs hn => ?_⟩
        · have := r.length
          rw [List.length_map] at this
          omega
        · have ey : ys = srtS id ss := ord_unique (key := id) (fun x _ y _ e => e) (hp.trans (srtS_perm ss).symm) (sortedS_ord hs) (srtS_ord ss)
          obtain ⟨st2, rel2⟩ := rel1.lay (o := .lst _) hn
          subst ey
          exact fin_step st2 rel2 h1 (.lst upd_same (rus_strs _))
    · cases e
  | _ => simp [uSort] at e
end
/-- each value with where it stands -/
theorem refs_of {K : PySem.W.Frag} {μ : List Addr} {J : Hp} : ∀ {us : List U} {vs : List V}, RUs K μ J us vs → us.all (fun u => (keyOf u).isSome) = true →
    ∃ Z : List (U × Addr), Z.map (·.1) = us ∧ Z.map (fun z => V.ref z.2) = vs ∧ ∀ z ∈ Z, RU K μ J z.1 (.ref z.2) ∧ ∃ r, SqT K J z.2 (.str (keyD z.1) :: r)
  | _, _, .nil, _ => ⟨[], rfl, rfl, fun z h => by simp at h⟩
  | _, _, .cons (u := u) (us := us) h r, e => by
    simp only [List.all_cons, Bool.and_eq_true] at e
    obtain ⟨Z, e1, e2, e3⟩ := refs_of r e.2
    match u, h, e.1 with
    | .tup (.str s :: rest), h, _ =>
      cases h with
      | @tup a _ vs ht rs =>
        cases rs with
        | cons h1 rs =>
          have := ru_strK h1
          subst this
          refine ⟨(.tup (.str s :: rest), a) :: Z, by simp [e1], by simp [e2], fun z hz => ?_⟩
          rcases List.mem_cons.mp hz with rfl | hz
          · exact ⟨.tup ht (.cons h1 rs), _, ht⟩
          · exact e3 z hz
theorem rus_Z {K : PySem.W.Frag} {μ : List Addr} {J : Hp} : ∀ {Z : List (U × Addr)}, (∀ z ∈ Z, RU K μ J z.1 (.ref z.2)) → RUs K μ J (Z.map (·.1)) (Z.map fun z => V.ref z.2)
  | [], _ => .nil
  | z :: Z, h => .cons (h z List.mem_cons_self) (rus_Z fun y hy => h y (List.mem_cons_of_mem _ hy))
theorem sortKey_read {K : PySem.W.Frag} {T : List (Addr × Str)} {ec : Str → Addr} {W : WX} {ma : En → Sto → UM U} (σ : L2.St) (H : Hp) (Q : VK)
    (h : TX K T ec W (RV K) (fun ρ S => bindO (ma ρ S) fun u S => optO (uSortK u) S) σ H Q) : WyS.tSortKey K T (TX K T ec W (RV K) ma) σ H Q := by
  obtain ⟨ρ, S, μ, J, rel, h⟩ := h
  refine tx_mono (tx_bind stab_v rel h) fun x H1 ⟨u, S1, μ1, J1, st, rel1, ru, h1⟩ => ?_
  obtain ⟨z, e, h1⟩ := fin_opt rel1 h1
  cases u with
  | lst us =>
    simp only [uSortK, Option.ite_none_right_eq_some, Option.some.injEq] at e
    obtain ⟨⟨hl, hk, hn⟩, rfl⟩ := e
    cases ru with
    | @lst a _ vs ht r =>
      obtain ⟨Z, e1, e2, e3⟩ := refs_of r hk
      have eps : ((Z.map fun z => (z.2, keyD z.1)).map (·.1)).map V.ref = vs := by
        rw [← e2]; simp [List.map_map, Function.comp_def]
      refine ⟨a, Z.map fun z => (z.2, keyD z.1), rfl, by rw [eps]; exact SqL.of (rel1.jh _ _ ht), fun p hp => ?_, rel1.tab, fun H2 os p eN T2 hp hs hn2 => ?_⟩
      · obtain ⟨z, hz, rfl⟩ := List.mem_map.mp hp
        obtain ⟨_, r, hr⟩ := e3 z hz
        exact ⟨r, rel1.jh.sqT hr⟩
      · -- the sorted row is the one of the tongue
        have hp' : (srtS (fun z : U × Addr => keyD z.1) Z).Perm Z := srtS_perm Z
        have ho : Ord (fun q : Addr × Str => q.2) ((srtS (fun z : U × Addr => keyD z.1) Z).map fun z => (z.2, keyD z.1)) := List.pairwise_map.mpr (srtS_ord Z)
        have hos : Ord (fun q : Addr × Str => q.2) os := hs
        have key : ∀ x ∈ os, ∀ y ∈ os, x.2 = y.2 → x = y := fun x hx y hy e => by
          have hx := hp.mem_iff.mp hx
          have hy := hp.mem_iff.mp hy
          have hnd : ((Z.map fun z => (z.2, keyD z.1)).map (·.2)).Nodup := by
            have : (Z.map fun z => (z.2, keyD z.1)).map (·.2) = us.map keyD := by rw [← e1]; simp [List.map_map, Function.comp_def]
            rw [this]; exact hn
          obtain ⟨i, hi, ex⟩ := List.mem_iff_getElem.mp hx
          obtain ⟨j, hj, ey⟩ := List.mem_iff_getElem.mp hy
          have hij : i = j := by
            refine (List.getElem_inj (h₀ := by simpa using hi) (h₁ := by simpa using hj) hnd).mp ?_
            rw [List.getElem_map (f := fun x : Addr × Str => x.2), List.getElem_map (f := fun x : Addr × Str => x.2)]
            exact (congrArg (·.2) ex).trans (e.trans (congrArg (·.2) ey).symm)
          subst hij
          rw [← ex, ← ey]
        have eos : os = (srtS (fun z : U × Addr => keyD z.1) Z).map fun z => (z.2, keyD z.1) :=
          ord_unique key (hp.trans (hp'.map _).symm) hos ho
        obtain ⟨st2, rel2⟩ := rel1.extN eN T2
        obtain ⟨st3, rel3⟩ := rel2.lay (o := .lst ((os.map (·.1)).map V.ref)) hn2
        refine fin_step (st2.trans st3) rel3 h1 (.lst upd_same ?_)
        have e4 : (os.map (·.1)).map V.ref = (srtS (fun z : U × Addr => keyD z.1) Z).map fun z => V.ref z.2 := by
          rw [eos]; simp [List.map_map, Function.comp_def]
        have e5 : srtS keyD us = (srtS (fun z : U × Addr => keyD z.1) Z).map (·.1) := by rw [srtS_map (·.1) keyD Z, e1]
        have st4 := st3
        rw [e4] at st4 ⊢
        rw [e5]
        exact rus_Z fun z hz => st4.ru (st2.ru (e3 z (hp'.mem_iff.mp hz)).1)
  | _ => simp [uSortK] at e
end Wy
end
section
set_option maxRecDepth 100000
set_option maxHeartbeats 2000000
/-! zip over any two of lists and tuples: each side told by a Bool (true: a list) -/
namespace WyZ
open PySem PySem.Spec PyProof.Rows L2 RZ
def SeqK (k : Bool) (h : Heap) (l : Addr) (xs : Array Value) : Prop := if k = true then h.IsList l xs else h.IsTuple l xs
def IterK (k : Bool) (h : Heap) (it l : Addr) (i : Nat) : Prop := if k = true then h.IsListIter it l i else h.IsTupleIter it l i
def itK (k : Bool) (l : Addr) : Obj := { cls := .type (if k = true then "list_iterator" else "tuple_iterator"), data := .fields #[.ref l, .int 0 0] }
theorem SeqK.at {k : Bool} {h h' : Heap} {l : Addr} {xs : Array Value} (x : SeqK k h l xs) (e : ∀ o, h.get? l = some o → h'.get? l = some o) : SeqK k h' l xs := by
  cases k <;> (obtain ⟨o, ho, r⟩ := x; exact ⟨o, e _ ho, r⟩)
theorem IterK.at {k : Bool} {h h' : Heap} {it l : Addr} {i : Nat} (x : IterK k h it l i) (e : ∀ o, h.get? it = some o → h'.get? it = some o) : IterK k h' it l i := by
  cases k <;> (obtain ⟨o, ho, r⟩ := x; exact ⟨o, e _ ho, r⟩)
theorem IterK.obj {k : Bool} {h : Heap} {it l : Addr} {i : Nat} (x : IterK k h it l i) : ∃ o, h.get? it = some o ∧ o.data = .fields #[.ref l, .int i 0] := by
  cases k <;> (obtain ⟨o, ho, _, hd⟩ := x; exact ⟨o, ho, hd⟩)
theorem IterK.lt {k : Bool} {h : Heap} {it l : Addr} {i : Nat} (x : IterK k h it l i) : it < h.objs.size := by
  obtain ⟨o, e, _⟩ := x.obj; exact Heap.lt_size e
section
variable {prog : Program} {w : World} {A : Around} {E : Value → Shared → Prop} {s : Shared}
theorem next_item {k : Bool} {it l : Addr} {i : Nat} {xs : Array Value} {x : Value} {Q : Value → Shared → Prop} (hit : IterK k s.heap it l i) (hl : SeqK k s.heap l xs) (hx : xs[i]? = some x)
    (hQ : ∀ h', IterK k h' it l (i + 1) → Heap.SameBut it s.heap h' → Q x { s with heap := h' }) : wpAny (model prog w) A (Builtin.SmallTypes.nextOf (.ref it)) Q E s := by
  cases k
  · exact nextOf_tuple_item hit hl hx hQ
  · exact wpAny_nextOf_list_item hit hl hx hQ
theorem next_end {k : Bool} {it l : Addr} {i : Nat} {xs : Array Value} {Q : Value → Shared → Prop} (hh : A.handled = none) (hit : IterK k s.heap it l i) (hl : SeqK k s.heap l xs) (hx : xs[i]? = none)
    (hE : ∀ h' e, Heap.ExtBut it s.heap h' → (∃ o, h'.get? e = some o ∧ o.cls = .type "StopIteration") → E (.ref e) { s with heap := h' }) : wpAny (model prog w) A (Builtin.SmallTypes.nextOf (.ref it)) Q E s := by
  cases k
  · exact nextOf_tuple_end hh hit hl hx hE
  · exact wpAny_nextOf_list_end hh hit hl hx hE
variable {ka kb : Bool} {z TI TO i1 i2 l1 l2 : Addr} {n1 n2 : Nat} {xs ys : Array Value} {x y a b : Value}
/-- the walk's first part, to the first side's turn -/
theorem zip_item {Q : Value → Shared → Prop} (D : ZipApart z TI TO i1 i2 l1 l2) (hz : IsZip s.heap z TI TO .none) (hTI : IsPair s.heap TI (.ref i1) (.ref i2)) (hTO : IsPair s.heap TO a b)
    (h1 : IterK ka s.heap i1 l1 n1) (h2 : IterK kb s.heap i2 l2 n2) (hl1 : SeqK ka s.heap l1 xs) (hl2 : SeqK kb s.heap l2 ys) (hx : xs[n1]? = some x) (hy : ys[n2]? = some y)
    (hQ : ∀ h', IsZip h' z TI TO (rawInt s.heap.objs.size) → IsPair h' TO x y → IterK ka h' i1 l1 (n1 + 1) → IterK kb h' i2 l2 (n2 + 1) → IsPair h' s.heap.objs.size x y → h'.objs.size = s.heap.objs.size + 1 →
      (∀ c o, c ≠ z → c ≠ TO → c ≠ i1 → c ≠ i2 → s.heap.get? c = some o → h'.get? c = some o) → Q (.ref s.heap.objs.size) { s with heap := h' }) :
    wpAny (model prog w) A (Builtin.«zip.__next__» ⟨[.ref z], []⟩) (fun fin s' => ∃ v, fin = .done (.ret v) ∧ Q v s') E s := by
  show wpAny _ _ (field (.ref z) 2 >>= _) _ _ _
  refine wpAny_bind (wpAny_field hz rfl (x := .bool false) rfl ?_)
  show wpAny _ _ (field (.ref z) 3 >>= _) _ _ _
  refine wpAny_bind (wpAny_field hz rfl (x := .ref TI) rfl ?_)
  refine wpAny_bind (wpAny_seqItems hTI rfl ?_)
  show wpAny _ _ (Builtin.SmallTypes.ownedTupleIsFree (.ref z) >>= _) _ _ _
  refine wpAny_bind ?_
  unfold Builtin.SmallTypes.ownedTupleIsFree
  refine wpAny_bind (wpAny_field hz rfl (x := .none) rfl (wpAny_pure ?_))
  simp only [if_true]
  refine wpAny_bind (wpAny_rule ?_)
  refine wpAny_bind (wpAny_field hz rfl (x := .ref TO) rfl ?_)
  refine wpAny_bind (wpAny_setField_rec hz (by simp) fun g1 z1 b1 => ?_)
  replace z1 : IsZip g1 z TI TO .ellipsis := z1
  refine wpAny_bind ?_
  simp only [List.zipIdx_cons, List.zipIdx_nil, List.forIn_cons, List.forIn_nil]
  -- the first side
  refine wpAny_bind (wpAny_bind (wpAny_onRaise ?_))
  show wpAny _ _ (Builtin.SmallTypes.nextOf (.ref i1) >>= _) _ _ _
  refine wpAny_bind (next_item (h1.at fun o => b1.extBut _ o D.i1z) (hl1.at fun o => b1.extBut _ o D.l1z) hx fun g2 p1 b2 => wpAny_pure ?_)
  have t2 : IsPair g2 TO a b := b2.extBut _ _ D.TOi1 (b1.extBut _ _ D.TOz hTO)
  refine wpAny_bind (wpAny_seqItems t2 rfl ?_)
  refine wpAny_bind (wpAny_updateSeq_pair t2 fun g3 t3 b3 => ?_)
  replace t3 : IsPair g3 TO x b := t3
  refine wpAny_bind (wpAny_letGo (wpAny_pure ?_))
  -- the second side
  refine wpAny_bind (wpAny_bind (wpAny_onRaise ?_))
  show wpAny _ _ (Builtin.SmallTypes.nextOf (.ref i2) >>= _) _ _ _
  have k3 : ∀ c o, c ≠ z → c ≠ i1 → c ≠ TO → s.heap.get? c = some o → g3.get? c = some o := fun c o c1 c2 c3 e => b3.extBut _ _ c3 (b2.extBut _ _ c2 (b1.extBut _ _ c1 e))
  refine wpAny_bind (next_item (h2.at fun o => k3 _ o D.i2z D.i12.symm D.TOi2.symm) (hl2.at fun o => k3 _ o D.l2z D.l2i1 D.l2TO) hy fun g4 p2 b4 => wpAny_pure ?_)
  have t4 : IsPair g4 TO x b := b4.extBut _ _ D.TOi2 t3
  refine wpAny_bind (wpAny_seqItems t4 rfl ?_)
  refine wpAny_bind (wpAny_updateSeq_pair t4 fun g5 t5 b5 => ?_)
  replace t5 : IsPair g5 TO x y := t5
  refine wpAny_bind (wpAny_letGo (wpAny_pure (wpAny_pure ?_)))
  -- the new pair is handed out
  refine wpAny_bind (wpAny_seqItems t5 rfl ?_)
  refine wpAny_bind (wpAny_newTuple ?_)
  have sz : g5.objs.size = s.heap.objs.size := by rw [b5.1, b4.1, b3.1, b2.1, b1.1]
  have z5 : IsZip g5 z TI TO .ellipsis := b5.extBut _ _ D.TOz.symm (b4.extBut _ _ D.i2z.symm (b3.extBut _ _ D.TOz.symm (b2.extBut _ _ D.i1z.symm z1)))
  have k5 : ∀ c o, c ≠ z → c ≠ TO → c ≠ i1 → c ≠ i2 → s.heap.get? c = some o → g5.get? c = some o := fun c o c1 c2 c3 c4 e => b5.extBut _ _ c2 (b4.extBut _ _ c4 (k3 c o c1 c3 c2 e))
  have q1 : IterK ka g5 i1 l1 (n1 + 1) := p1.at fun o e => b5.extBut _ _ D.TOi1.symm (b4.extBut _ _ D.i12 (b3.extBut _ _ D.TOi1.symm e))
  have q2 : IterK kb g5 i2 l2 (n2 + 1) := p2.at fun o e => b5.extBut _ _ D.TOi2.symm e
  have zlt : z < g5.objs.size := Heap.lt_size z5
  show wpAny _ _ (Builtin.SmallTypes.ownedTupleHandOut (.ref z) (.ref g5.objs.size) >>= _) _ _ _
  refine wpAny_bind ?_
  unfold Builtin.SmallTypes.ownedTupleHandOut
  have z6 : IsZip (g5.push { cls := .type "tuple", data := .seq #[x, y] }) z TI TO .ellipsis := Heap.get?_push_of_some _ z5
  refine wpAny_bind (wpAny_setField_rec z6 (by simp) fun g7 z7 b7 => ?_)
  replace z7 : IsZip g7 z TI TO (rawInt g5.objs.size) := z7
  refine wpAny_setField_rec z7 (by simp) fun g8 z8 b8 => ?_
  replace z8 : IsZip g8 z TI TO (rawInt g5.objs.size) := z8
  have up : ∀ c o, c ≠ z → g5.get? c = some o → g8.get? c = some o := fun c o c1 e => b8.extBut _ _ c1 (b7.extBut _ _ c1 (Heap.get?_push_of_some _ e))
  have T8 : IsPair g8 g5.objs.size x y := b8.extBut _ _ (Nat.ne_of_gt zlt) (b7.extBut _ _ (Nat.ne_of_gt zlt) (Heap.get?_push_size _ rfl))
  have s8 : g8.objs.size = g5.objs.size + 1 := by rw [b8.1, b7.1, Heap.size_push]
  rw [sz] at z8 T8 s8
  refine wpAny_pure ⟨_, rfl, ?_⟩
  show Q (.ref g5.objs.size) _
  rw [sz]
  exact hQ g8 z8 (up _ _ D.TOz t5) (q1.at fun o e => up _ o D.i1z e) (q2.at fun o e => up _ o D.i2z e) T8 s8 fun c o c1 c2 c3 c4 e => up c o c1 (k5 c o c1 c2 c3 c4 e)
theorem zip_end {Q : Fin → Shared → Prop} (hh : A.handled = none) (D : ZipApart z TI TO i1 i2 l1 l2) (hz : IsZip s.heap z TI TO .none) (hTI : IsPair s.heap TI (.ref i1) (.ref i2)) (hTO : IsPair s.heap TO a b)
    (h1 : IterK ka s.heap i1 l1 n1) (h2 : IterK kb s.heap i2 l2 n2) (hl1 : SeqK ka s.heap l1 xs) (hl2 : SeqK kb s.heap l2 ys) (hend : xs[n1]? = none ∨ ys[n2]? = none)
    (hE : ∀ h' e, (∀ c o, c ≠ z → c ≠ TO → c ≠ i1 → c ≠ i2 → s.heap.get? c = some o → h'.get? c = some o) → (∃ o, h'.get? e = some o ∧ o.cls = .type "StopIteration") → E (.ref e) { s with heap := h' }) :
    wpAny (model prog w) A (Builtin.«zip.__next__» ⟨[.ref z], []⟩) Q E s := by
  show wpAny _ _ (field (.ref z) 2 >>= _) _ _ _
  refine wpAny_bind (wpAny_field hz rfl (x := .bool false) rfl ?_)
  show wpAny _ _ (field (.ref z) 3 >>= _) _ _ _
  refine wpAny_bind (wpAny_field hz rfl (x := .ref TI) rfl ?_)
  refine wpAny_bind (wpAny_seqItems hTI rfl ?_)
  show wpAny _ _ (Builtin.SmallTypes.ownedTupleIsFree (.ref z) >>= _) _ _ _
  refine wpAny_bind ?_
  unfold Builtin.SmallTypes.ownedTupleIsFree
  refine wpAny_bind (wpAny_field hz rfl (x := .none) rfl (wpAny_pure ?_))
  simp only [if_true]
  refine wpAny_bind (wpAny_rule ?_)
  refine wpAny_bind (wpAny_field hz rfl (x := .ref TO) rfl ?_)
  refine wpAny_bind (wpAny_setField_rec hz (by simp) fun g1 z1 b1 => ?_)
  replace z1 : IsZip g1 z TI TO .ellipsis := z1
  refine wpAny_bind ?_
  simp only [List.zipIdx_cons, List.zipIdx_nil, List.forIn_cons, List.forIn_nil]
  refine wpAny_bind (wpAny_bind (wpAny_onRaise ?_))
  show wpAny _ _ (Builtin.SmallTypes.nextOf (.ref i1) >>= _) _ _ _
  cases hx : xs[n1]? with
  | none =>
    refine wpAny_bind (next_end hh (h1.at fun o => b1.extBut _ o D.i1z) (hl1.at fun o => b1.extBut _ o D.l1z) hx fun g2 e b2 he => ?_)
    obtain ⟨oe, hoe, hce⟩ := he
    have z2 : IsZip g2 z TI TO .ellipsis := b2 _ _ D.i1z.symm z1
    have hez : e ≠ z := fun x => by subst x; rw [z2] at hoe; cases hoe; simp at hce
    exact wpAny_setField_rec z2 (by simp) fun g3 _ b3 => hE g3 e (fun c o c1 _ c3 _ x => b3.extBut _ _ c1 (b2 _ _ c3 (b1.extBut _ _ c1 x))) ⟨oe, b3.extBut _ _ hez hoe, hce⟩
  | some x =>
    have hy : ys[n2]? = none := hend.elim (fun h => by rw [hx] at h; cases h) id
    refine wpAny_bind (next_item (h1.at fun o => b1.extBut _ o D.i1z) (hl1.at fun o => b1.extBut _ o D.l1z) hx fun g2 p1 b2 => wpAny_pure ?_)
    have t2 : IsPair g2 TO a b := b2.extBut _ _ D.TOi1 (b1.extBut _ _ D.TOz hTO)
    refine wpAny_bind (wpAny_seqItems t2 rfl ?_)
    refine wpAny_bind (wpAny_updateSeq_pair t2 fun g3 t3 b3 => ?_)
    refine wpAny_bind (wpAny_letGo (wpAny_pure ?_))
    refine wpAny_bind (wpAny_bind (wpAny_onRaise ?_))
    show wpAny _ _ (Builtin.SmallTypes.nextOf (.ref i2) >>= _) _ _ _
    have k3 : ∀ c o, c ≠ z → c ≠ i1 → c ≠ TO → s.heap.get? c = some o → g3.get? c = some o := fun c o c1 c2 c3 e => b3.extBut _ _ c3 (b2.extBut _ _ c2 (b1.extBut _ _ c1 e))
    refine wpAny_bind (next_end hh (h2.at fun o => k3 _ o D.i2z D.i12.symm D.TOi2.symm) (hl2.at fun o => k3 _ o D.l2z D.l2i1 D.l2TO) hy fun g4 e b4 he => ?_)
    obtain ⟨oe, hoe, hce⟩ := he
    have z4 : IsZip g4 z TI TO .ellipsis := b4 _ _ D.i2z.symm (b3.extBut _ _ D.TOz.symm (b2.extBut _ _ D.i1z.symm z1))
    have hez : e ≠ z := fun x => by subst x; rw [z4] at hoe; cases hoe; simp at hce
    exact wpAny_setField_rec z4 (by simp) fun g5 _ b5 => hE g5 e (fun c o c1 c2 c3 c4 x => b5.extBut _ _ c1 (b4 _ _ c4 (k3 c o c1 c3 c2 x))) ⟨oe, b5.extBut _ _ hez hoe, hce⟩
theorem py_item {Q : Option Value → Shared → Prop} (D : ZipApart z TI TO i1 i2 l1 l2) (hz : IsZip s.heap z TI TO .none) (hTI : IsPair s.heap TI (.ref i1) (.ref i2)) (hTO : IsPair s.heap TO a b)
    (h1 : IterK ka s.heap i1 l1 n1) (h2 : IterK kb s.heap i2 l2 n2) (hl1 : SeqK ka s.heap l1 xs) (hl2 : SeqK kb s.heap l2 ys) (hx : xs[n1]? = some x) (hy : ys[n2]? = some y)
    (hQ : ∀ h', IsZip h' z TI TO (rawInt s.heap.objs.size) → IsPair h' TO x y → IterK ka h' i1 l1 (n1 + 1) → IterK kb h' i2 l2 (n2 + 1) → IsPair h' s.heap.objs.size x y → h'.objs.size = s.heap.objs.size + 1 →
      (∀ c o, c ≠ z → c ≠ TO → c ≠ i1 → c ≠ i2 → s.heap.get? c = some o → h'.get? c = some o) → Q (some (.ref s.heap.objs.size)) { s with heap := h' }) :
    wpAny (model prog w) A (pyNext (.ref z)) Q E s := by
  have hT : s.TypeIs (.ref z) "zip" := ⟨_, hz, rfl⟩
  unfold pyNext
  exact wpAny_bind (wpAny_attempt (wpAny_callSpecial?_slot (name := Str.ofString "__next__") hT F.slot_zip_next
    (wpAny_call_entry F.slot_zip_next hT F.entry_zip_next
      (zip_item D hz hTI hTO h1 h2 hl1 hl2 hx hy fun h' a1 a2 a3 a4 a5 a6 a7 => wpAny_pure (hQ h' a1 a2 a3 a4 a5 a6 a7)) (F.args_zip_next_1 _))))
theorem py_end {Q : Option Value → Shared → Prop} (hh : A.handled = none) (D : ZipApart z TI TO i1 i2 l1 l2) (hz : IsZip s.heap z TI TO .none) (hTI : IsPair s.heap TI (.ref i1) (.ref i2)) (hTO : IsPair s.heap TO a b)
    (h1 : IterK ka s.heap i1 l1 n1) (h2 : IterK kb s.heap i2 l2 n2) (hl1 : SeqK ka s.heap l1 xs) (hl2 : SeqK kb s.heap l2 ys) (hend : xs[n1]? = none ∨ ys[n2]? = none)
    (hQ : ∀ h', (∀ c o, c ≠ z → c ≠ TO → c ≠ i1 → c ≠ i2 → s.heap.get? c = some o → h'.get? c = some o) → Q none { s with heap := h' }) : wpAny (model prog w) A (pyNext (.ref z)) Q E s := by
  have hT : s.TypeIs (.ref z) "zip" := ⟨_, hz, rfl⟩
  unfold pyNext
  refine wpAny_bind (wpAny_attempt (wpAny_callSpecial?_slot (name := Str.ofString "__next__") hT F.slot_zip_next
    (wpAny_call_entry F.slot_zip_next hT F.entry_zip_next (zip_end hh D hz hTI hTO h1 h2 hl1 hl2 hend fun h' e hk he => ?_) (F.args_zip_next_1 _))))
  obtain ⟨o, ho, hc⟩ := he
  refine wpAny_bind (wpAny_isInstance (T := "StopIteration") (b := true) ⟨o, ho, hc⟩ isSubtype_stop ?_)
  exact wpAny_pure (hQ _ hk)
/-- zip(list, tuple) made -/
abbrev mH1 (h : Heap) (l1 : Addr) : Heap := h.push (itK true l1)
abbrev mH2 (h : Heap) (l1 l2 : Addr) : Heap := (mH1 h l1).push (itK false l2)
abbrev mH3 (h : Heap) (l1 l2 : Addr) : Heap := (mH2 h l1 l2).push { cls := .type "tuple", data := .seq #[.ref h.objs.size, .ref (mH1 h l1).objs.size] }
abbrev mH4 (h : Heap) (l1 l2 : Addr) : Heap := (mH3 h l1 l2).push { cls := .type "tuple", data := .seq #[.none, .none] }
abbrev mH5 (h : Heap) (l1 l2 : Addr) : Heap := (mH4 h l1 l2).push { cls := .type "zip", data := .fields #[.none, .bool false, .bool false, .ref (mH2 h l1 l2).objs.size, .ref (mH3 h l1 l2).objs.size] }
end
theorem meets_new (l1 l2 : Addr) (xs ys : Array Value) :
    Meets (Builtin.«zip.__new__» ⟨[.type "zip", .ref l1, .ref l2], []⟩) (fun _ R s => s.heap.IsList l1 xs ∧ s.heap.IsTuple l2 ys ∧
      R (.ok (.ret (.ref (mH4 s.heap l1 l2).objs.size))) { s with heap := mH5 s.heap l1 l2 }) :=
  .of_wp fun prog w A R s h => by
    obtain ⟨hp, g, d, tk, os⟩ := s; obtain ⟨hl1, hl2, h⟩ := h
    have hsub := sub_zip
    have hL1 : Heap.IsList (Shared.heap ⟨hp, g, d, tk, os⟩) l1 xs := hl1
    have hL2 : Heap.IsTuple (Shared.heap ⟨hp.push { cls := .type "list_iterator", data := .fields #[.ref l1, .int 0 0] }, g, d, tk, os⟩) l2 ys := Heap.IsTuple.push hl2 _
    wp_walk using wpAny_pyIter_list hL1, wpAny_pyIter_tuple hL2
    exact ⟨_, rfl, h⟩
section
variable {prog : Program} {w : World} {A : Around} {E : Value → Shared → Prop} {s : Shared}
theorem call_mix {l1 l2 : Addr} {xs ys : Array Value} {Q : Value → Shared → Prop} (hl1 : s.heap.IsList l1 xs) (hl2 : s.heap.IsTuple l2 ys)
    (h : ∀ h', IsZip h' (s.heap.objs.size + 4) (s.heap.objs.size + 2) (s.heap.objs.size + 3) .none → IsPair h' (s.heap.objs.size + 2) (.ref s.heap.objs.size) (.ref (s.heap.objs.size + 1)) →
      IsPair h' (s.heap.objs.size + 3) .none .none → IterK true h' s.heap.objs.size l1 0 → IterK false h' (s.heap.objs.size + 1) l2 0 → h'.objs.size = s.heap.objs.size + 5 →
      (∀ c o, s.heap.get? c = some o → h'.get? c = some o) → Q (.ref (s.heap.objs.size + 4)) { s with heap := h' }) :
    wpAny (model prog w) A (call (.type "zip") [.ref l1, .ref l2]) Q E s := by
  refine callType_new F.called_zip (by decide) (F.typeCall_zip_2 _ _) (F.newCall_zip_2 _ _) (fun obj => F.args_object_init_3 obj _ _) F.entry_zip_new
    (meets_new l1 l2 xs ys) ⟨hl1, hl2, ?_⟩
  have z1 : (mH1 s.heap l1).objs.size = s.heap.objs.size + 1 := Heap.size_push ..
  have z2 : (mH2 s.heap l1 l2).objs.size = s.heap.objs.size + 2 := by rw [Heap.size_push, z1]
  have z3 : (mH3 s.heap l1 l2).objs.size = s.heap.objs.size + 3 := by rw [Heap.size_push, z2]
  have z4 : (mH4 s.heap l1 l2).objs.size = s.heap.objs.size + 4 := by rw [Heap.size_push, z3]
  have z5 : (mH5 s.heap l1 l2).objs.size = s.heap.objs.size + 5 := by rw [Heap.size_push, z4]
  have g5 : (mH5 s.heap l1 l2).get? (mH4 s.heap l1 l2).objs.size = some _ := Heap.get?_push_size _ rfl
  have g4 : (mH5 s.heap l1 l2).get? (mH3 s.heap l1 l2).objs.size = some _ := Heap.get?_push_of_some _ (Heap.get?_push_size _ rfl)
  have g3 : (mH5 s.heap l1 l2).get? (mH2 s.heap l1 l2).objs.size = some _ := Heap.get?_push_of_some _ (Heap.get?_push_of_some _ (Heap.get?_push_size _ rfl))
  have g2 : (mH5 s.heap l1 l2).get? (mH1 s.heap l1).objs.size = some _ := Heap.get?_push_of_some _ (Heap.get?_push_of_some _ (Heap.get?_push_of_some _ (Heap.get?_push_size _ rfl)))
  have g1 : (mH5 s.heap l1 l2).get? s.heap.objs.size = some _ := Heap.get?_push_of_some _ (Heap.get?_push_of_some _ (Heap.get?_push_of_some _ (Heap.get?_push_of_some _ (Heap.get?_push_size _ rfl))))
  show _ ∧ _
  rw [z2, z3, z4] at g5
  rw [z1, z2] at g3
  rw [z3] at g4
  rw [z1] at g2
  rw [z4]
  exact ⟨⟨_, g5, rfl⟩, h _ g5 g3 g4 ⟨_, g1, rfl, rfl⟩ ⟨_, g2, rfl, rfl⟩ z5 fun c o x =>
    Heap.get?_push_of_some _ (Heap.get?_push_of_some _ (Heap.get?_push_of_some _ (Heap.get?_push_of_some _ (Heap.get?_push_of_some _ x))))⟩
end
/-! ### the turns -/
def SqK (k : Bool) (K : PySem.W.Frag) (H : Hp) (a : Addr) (xs : List V) : Prop := if k = true then SqL K H a xs else SqT K H a xs
def ItzK (ka kb : Bool) (K : PySem.W.Frag) (a b : Addr) : It :=
  ⟨fun i H => ∃ (xs ys : List V) (x y : V), SqK ka K H a xs ∧ SqK kb K H b ys ∧ xs[i]? = some x ∧ ys[i]? = some y,
    fun i H v H' => ∃ T x y, v = .ref T ∧ H T = none ∧ H' = upd H T (.tup [x, y]) ∧ (∀ xs, SqK ka K H a xs → xs[i]? = some x) ∧ ∀ ys, SqK kb K H b ys → ys[i]? = some y,
    fun i H => ∃ xs ys : List V, SqK ka K H a xs ∧ SqK kb K H b ys ∧ (xs.length ≤ i ∨ ys.length ≤ i)⟩
theorem inv_seq {X : Cx} {pins : List (Addr × Obj)} {σ : L2.St} {H : Hp} {s : Shared} {k : Bool} {a : Addr} {xs : List V} (I : Inv X pins σ H s) (h : SqK k X.K H a xs) : ∃ its : List Value, Vals xs its ∧ SeqK k s.heap a its.toArray ∧ a < s.heap.objs.size := by
  cases k
  · obtain ⟨its, r, p, _⟩ := I.tuple h
    obtain ⟨o, ho, _⟩ := id p
    exact ⟨its, r, p, Heap.lt_size ho⟩
  · obtain ⟨its, r, p, _⟩ := I.list h
    exact ⟨its, r, p.isList, p.lt⟩
theorem inv_inj {X : Cx} {pins : List (Addr × Obj)} {σ : L2.St} {H : Hp} {s : Shared} {k : Bool} {a : Addr} {xs ys : List V} (I : Inv X pins σ H s) (h : SqK k X.K H a xs) (h' : SqK k X.K H a ys) : xs = ys := by
  cases k
  · exact I.tuple_inj h h'
  · exact I.list_inj h h'
theorem turn {ka kb : Bool} {P : Program} {w : World} {K : PySem.W.Frag} {elts : List Expr} {kk : Nat} {tpos : Pos} {a b z TI TO i1 i2 : Addr} (D : ZipApart z TI TO i1 i2 a b) :
    Turn P w K (.Tuple elts kk tpos) (ItzK ka kb K a b) [z, TI, TO, i1, i2] z (fun i h => IsZip h z TI TO .none ∧ IsPair h TI (.ref i1) (.ref i2) ∧ (∃ x y, IsPair h TO x y) ∧ IterK ka h i1 a i ∧ IterK kb h i2 b i) where
  mem := by simp
  obj := fun i h st c hc => by
    obtain ⟨hz, hTI, ⟨x, y, hTO⟩, q1, q2⟩ := st
    obtain ⟨o1, e1, d1⟩ := q1.obj
    obtain ⟨o2, e2, d2⟩ := q2.obj
    have e' : c = z ∨ c = TI ∨ c = TO ∨ c = i1 ∨ c = i2 := by simpa using hc
    rcases e' with q | q | q | q | q
    · rw [q]; exact ⟨_, hz, fun v q => nomatch q⟩
    · rw [q]; exact ⟨_, hTI, fun v q => nomatch q⟩
    · rw [q]; exact ⟨_, hTO, fun v q => nomatch q⟩
    · rw [q]; exact ⟨o1, e1, fun v q => by rw [d1] at q; cases q⟩
    · rw [q]; exact ⟨o2, e2, fun v q => by rw [d2] at q; cases q⟩
  keep := fun i h h' st k => by
    obtain ⟨hz, hTI, ⟨x, y, hTO⟩, h1, h2⟩ := st
    exact ⟨k z (by simp) _ hz, k TI (by simp) _ hTI, ⟨x, y, k TO (by simp) _ hTO⟩, h1.at fun o q => k i1 (by simp) o q, h2.at fun o q => k i2 (by simp) o q⟩
  item := by
    intro X hP hw hK hc i pins s σ H E I hf st hg
    subst hP hw hK
    obtain ⟨hz, hTI, ⟨x0, y0, hTO⟩, h1, h2⟩ := st
    obtain ⟨xs, ys, x, y, hqx, hqy, hx, hy⟩ := hg
    obtain ⟨its, rv, p, _⟩ := inv_seq I hqx
    obtain ⟨its2, rv2, p2, _⟩ := inv_seq I hqy
    obtain ⟨u, hu, ru⟩ := rv.get hx
    obtain ⟨u2, hu2, ru2⟩ := rv2.get hy
    have hzl : z < s.heap.objs.size := Heap.lt_size hz
    refine py_item D hz hTI hTO h1 h2 p p2 (x := u) (y := u2) (by simpa using hu) (by simpa using hu2) fun h' z' TO' h1' h2' hT hsz hk => ?_
    refine ⟨_, rfl, wpAny_letOwnedTupleGo_zip (s := { s with heap := h' }) z' fun h'' z'' sb => ?_⟩
    have hT2 : h''.get? s.heap.objs.size = some { cls := .type "tuple", data := .seq #[u, u2] } := (sb.2 _ (Nat.ne_of_gt hzl)).trans hT
    have new : ObjOk X.prog X.w (upd H s.heap.objs.size (.tup [x, y])) h'' s.heap.objs.size (.tup [x, y]) :=
      ⟨by show 2 ≤ sizeLine; decide, [u, u2], .cons ru (.cons ru2 .nil), ⟨_, hT2, rfl, _, rfl⟩⟩
    have I1 : Inv X pins σ (upd H s.heap.objs.size (.tup [x, y])) { s with heap := h'' } :=
      I.turnedNew (t' := s.toks) (ch := [z, TI, TO, i1, i2]) (fun c o hb q => (sb.2 c (fun q' => hb (by simp [q']))).trans (hk c o (fun q' => hb (by simp [q'])) (fun q' => hb (by simp [q'])) (fun q' => hb (by simp [q'])) (fun q' => hb (by simp [q'])) q)) hf (Nat.le_refl _) new
    refine ⟨.ref s.heap.objs.size, _, I1, rfl, ⟨_, x, y, rfl, I.hok.fresh (Nat.le_refl _), rfl, fun l hl => by rw [inv_inj I hl hqx]; exact hx, fun l hl => by rw [inv_inj I hl hqy]; exact hy⟩, ⟨z'', ?_, ⟨u, u2, ?_⟩, ?_, ?_⟩, fun c hcm => ?_⟩
    · exact (sb.2 _ D.TIz).trans (hk _ _ D.TIz D.TITO D.TIi1 D.TIi2 hTI)
    · exact (sb.2 _ D.TOz).trans TO'
    · exact h1'.at fun o q => (sb.2 _ D.i1z).trans q
    · exact h2'.at fun o q => (sb.2 _ D.i2z).trans q
    · have hlt : c < s.heap.objs.size := by
        have e' : c = z ∨ c = TI ∨ c = TO ∨ c = i1 ∨ c = i2 := by simpa using hcm
        rcases e' with q | q | q | q | q
        · rw [q]; exact hzl
        · rw [q]; exact Heap.lt_size hTI
        · rw [q]; exact Heap.lt_size hTO
        · rw [q]; exact h1.lt
        · rw [q]; exact h2.lt
      rw [upd_ne (Nat.ne_of_lt hlt)]
      exact (hf c hcm).1
  done := by
    intro X hP hw hK hc i pins s σ H E I hf st hg
    subst hP hw hK
    obtain ⟨hz, hTI, ⟨x0, y0, hTO⟩, h1, h2⟩ := st
    obtain ⟨xs, ys, hqx, hqy, hend⟩ := hg
    obtain ⟨its, rv, p, _⟩ := inv_seq I hqx
    obtain ⟨its2, rv2, p2, _⟩ := inv_seq I hqy
    have l1 := rv.length
    have l2 := rv2.length
    have he : its.toArray[i]? = none ∨ its2.toArray[i]? = none := by
      rcases hend with q | q
      · exact .inl (by simp; omega)
      · exact .inr (by simp; omega)
    exact py_end (I.ok.hd hc) D hz hTI hTO h1 h2 p p2 he fun h' hk => ⟨rfl, I.turnedL (t' := s.toks) (ch := [z, TI, TO, i1, i2]) (fun c o hb q =>
      hk c o (fun q' => hb (by simp [q'])) (fun q' => hb (by simp [q'])) (fun q' => hb (by simp [q'])) (fun q' => hb (by simp [q'])) q) hf⟩
  self := fun A i s Q E st h => wpAny_pyIter_zip st.1 h
def iZipM (K : PySem.W.Frag) (ta : TA) : TI := fun σ H R => ta σ H fun vs H1 => ∃ a b xs ys, vs = [.ref a, .ref b] ∧ SqL K H1 a xs ∧ SqT K H1 b ys ∧ R (ItzK true false K a b) H1
theorem pi_zipM {X : Cx} {e e2 : Expr} {ta : TA} {p pos tpos : Pos} {elts : List Expr} {kk : Nat} (hg : Gl X "zip") (hm : X.mg "zip" = none) (ha : PA X [e, e2] ta)
    (hs : starEach [e, e2] X.env = (false, eval e X.env) :: starEach [e2] X.env) (hpl : (backTo pos (starEach [e2] X.env)).any (·.1) = false) :
    PI X (.Tuple elts kk tpos) (.Call (.Name "zip" p) [e, e2] [] pos) (iZipM X.K ta) := by
  refine ⟨fun pins s σ H R I h => ?_⟩
  refine Call_ (ld_blt I hg hm PyProof.Rows.boot_zip (PyProof.Rows.callWith_type1 (thn (ha.run pos pins s σ H _ I h) fun us s1 ⟨vs, H1, I1, r1, q1⟩ => ?_) hs hpl))
  obtain ⟨a, b, xs, ys, ex, hqx, hqy, q⟩ := q1
  subst ex
  cases r1 with
  | cons r rr =>
    cases rr with
    | cons r' rr =>
      cases rr
      cases r
      cases r'
      have fresh5 : ∀ c, c ∈ [s1.heap.objs.size + 4, s1.heap.objs.size + 2, s1.heap.objs.size + 3, s1.heap.objs.size, s1.heap.objs.size + 1] → FpOk X pins H1 c := fun c hcm => by
        have e' : c = s1.heap.objs.size + 4 ∨ c = s1.heap.objs.size + 2 ∨ c = s1.heap.objs.size + 3 ∨ c = s1.heap.objs.size ∨ c = s1.heap.objs.size + 1 := by simpa using hcm
        have hle : s1.heap.objs.size ≤ c := by
          rcases e' with z | z | z | z | z
          · rw [z]; exact Nat.le_add_right _ _
          · rw [z]; exact Nat.le_add_right _ _
          · rw [z]; exact Nat.le_add_right _ _
          · rw [z]; exact Nat.le_refl _
          · rw [z]; exact Nat.le_add_right _ _
        exact I1.fpOk hle (I1.hok.fresh hle)
      obtain ⟨its, rv, p1, l1⟩ := inv_seq (k := true) I1 hqx
      obtain ⟨its2, rv2, p2, l2⟩ := inv_seq (k := false) I1 hqy
      refine call_mix (xs := its.toArray) (ys := its2.toArray) p1 p2 fun h' hz hTI hTO h1 h2 hsz hk => wpAny_pyIter_zip hz ?_
      have I2 : Inv X pins σ H1 { s1 with heap := h' } := I1.kept (t' := s1.toks) hk
      exact ⟨s1.heap.objs.size + 4, [s1.heap.objs.size + 4, s1.heap.objs.size + 2, s1.heap.objs.size + 3, s1.heap.objs.size, s1.heap.objs.size + 1], _, _, H1, rfl, I2, turn (PySem.W.ktu_apart s1.heap.objs.size a b l1 l2), ⟨hz, hTI, ⟨_, _, hTO⟩, h1, h2⟩, fresh5, q⟩
end WyZ
end
section
set_option maxRecDepth 100000
set_option maxHeartbeats 2000000
namespace Wy
open PySem PySem.Spec PyProof.Rows L2
section
variable {X : Cx} {T : List (Addr × Str)} {ec : Str → Addr} {W : WX} {B : Bs}
variable {μ μ1 : List Addr} {J J1 H H1 : Hp} {ρ : En} {S : Sto} {σ : L2.St}
variable {a b : Expr} {ma mb : En → Sto → UM U} {pos p : Pos}
/-! ### zip -/
theorem zip_get {xs ys : List U} {i : Nat} {u : U} (h : ((xs.zip ys).map fun p => U.tup [p.1, p.2])[i]? = some u) : ∃ x y, xs[i]? = some x ∧ ys[i]? = some y ∧ u = .tup [x, y] := by
  rw [List.getElem?_map, Option.map_eq_some_iff] at h
  obtain ⟨⟨x, y⟩, h, rfl⟩ := h
  rw [List.getElem?_zip_eq_some] at h
  exact ⟨x, y, h.1, h.2, rfl⟩
theorem it_zip {K : PySem.W.Frag} {xs ys : List U} {vs ws : List V} {a b : Addr} (ha : J a = some (.lst vs)) (hb : SqT K J b ws) (rx : RUs K μ J xs vs) (ry : RUs K μ J ys ws) (hl : xs.length = ys.length) :
    ItOk K T ((xs.zip ys).map fun p => U.tup [p.1, p.2]) (WyZ.ItzK true false K a b) μ J := fun μ' J' ρ S σ H rel sj pre => by
  have qa : SqL K H a vs := SqL.of (rel.jh _ _ (sj _ _ ha))
  have qb : SqT K H b ws := rel.jh.sqT (sj.sqT hb)
  have rx := rx.mono sj pre
  have ry := ry.mono sj pre
  refine ⟨fun i u e => ?_, fun i hi => ⟨vs, ws, qa, qb, ?_⟩⟩
  · obtain ⟨x, y, e1, e2, rfl⟩ := zip_get e
    obtain ⟨v, hv, rv⟩ := rx.get e1
    obtain ⟨w, hw, rw⟩ := ry.get e2
    refine ⟨⟨vs, ws, v, w, qa, qb, hv, hw⟩, fun z H' hz => ?_⟩
    obtain ⟨t, v', w', rfl, ht, rfl, f1, f2⟩ := hz
    have f1 := f1 vs qa
    have f2 := f2 ws qb
    rw [hv] at f1; cases f1
    rw [hw] at f2; cases f2
    obtain ⟨st, rel2⟩ := rel.lay (o := .tup [v, w]) ht
    exact ⟨_, st, rel2, .tup (SqT.of upd_same) (.cons (st.ru rv) (.cons (st.ru rw) .nil))⟩
  · have h1 := rx.length
    have h2 := ry.length
    rw [List.length_map, List.length_zip] at hi
    omega
theorem ri_zip {elts : List Expr} {kk : Nat} {tpos : Pos} (hg : Gl X "zip") (hm : X.mg "zip" = none) (hs : starEach [a, b] X.env = (false, eval a X.env) :: starEach [b] X.env) (hs2 : starEach [b] X.env = [(false, eval b X.env)])
    (ha : PE X a (EV X T ec W ma)) (hb : PE X b (EV X T ec W mb)) :
    PI X (.Tuple elts kk tpos) (.Call (.Name "zip" p) [a, b] [] pos) (TX X.K T ec W (RI X.K T) fun ρ S => bindO (ma ρ S) fun u S => bindO (mb ρ S) fun w S => zipM u w S) := by
  have he0 : starEach ([] : List Expr) X.env = [] := rfl
  refine pi_imp (WyZ.pi_zipM hg hm (pa_cons ha (pa_cons hb pa_nil (by rw [hs2, he0])) (by rw [hs])) hs (by rw [hs2]; rfl)) fun σ H R ⟨ρ, S, μ, J, rel, h⟩ => ?_
  refine tx_mono (tx_bind stab_i rel h) fun x H1 ⟨u, S1, μ1, J1, st, rel1, ru, h1⟩ => ?_
  refine tx_mono (tx_bind stab_i rel1 h1) fun y H2 ⟨w, S2, μ2, J2, st2, rel2, rw, h2⟩ => ?_
  have ru := st2.ru ru
  match u, w, ru, rw, h2 with
  | .lst xs, .tup ys, ru, rw, h2 =>
    cases ru with
    | lst hx rx =>
      cases rw with
      | tup hy ry =>
        by_cases c : xs.length = ys.length
        · simp only [zipM, if_pos c] at h2
          exact ⟨_, _, _, _, rfl, SqL.of (rel2.jh _ _ hx), rel2.jh.sqT hy, fin_i rel2 h2 (it_zip hx hy rx ry c)⟩
        · simp only [zipM, if_neg c] at h2
          exact h2.elim
  | .lst xs, .non, _, _, h2 | .lst xs, .bl _, _, _, h2 | .lst xs, .int _, _, _, h2 | .lst xs, .str _, _, _, h2 | .lst xs, .lst _, _, _, h2 | .lst xs, .fz _, _, _, h2 | .lst xs, .emp, _, _, h2 | .lst xs, .ref _, _, _, h2 => exact h2.elim
  | .non, _, _, _, h2 | .bl _, _, _, _, h2 | .int _, _, _, _, h2 | .str _, _, _, _, h2 | .tup _, _, _, _, h2 | .fz _, _, _, _, h2 | .emp, _, _, _, h2 | .ref _, _, _, _, h2 => exact h2.elim
/-! ### several names at once -/
theorem tx_map {α α' β : Type} {R : Hp → List Addr → Hp → Hp → α → β → Prop} {R' : Hp → List Addr → Hp → Hp → α' → β → Prop} {f : α → α'} {m : En → Sto → UM α} (hR : ∀ H μ J H' u v, R H μ J H' u v → R' H μ J H' (f u) v) {Q : β → Hp → Prop}
    (h : TX X.K T ec W R' (fun ρ S => bindO (m ρ S) fun u S => pureO (f u) S) σ H Q) : TX X.K T ec W R m σ H Q := by
  obtain ⟨ρ, S, μ, J, rel, h⟩ := h
  refine ⟨ρ, S, μ, J, rel, ?_⟩
  have h' : Fin' X.K T ec W R' μ J ρ σ H (bindO (m ρ S) fun u S => pureO (f u) S) Q := h
  clear h
  match e : m ρ S, h' with
  | none, h => exact h
  | some (.err c, S'), h => exact h
  | some (.ok u, S'), h => exact fun v μ' J' H' st q x => h v μ' J' H' st q (hR _ _ _ _ _ _ x)
abbrev RP (K : PySem.W.Frag) : Hp → List Addr → Hp → Hp → VP → V → Prop := fun H μ J H' u v => match u with
  | .v u => RU K μ J u v
  | .l us => RF K H μ J H' us v
theorem rp_v (ha : PE X a (EV X T ec W ma)) : PE X a (TX X.K T ec W (RP X.K) fun ρ S => bindO (ma ρ S) fun u S => pureO (.v u) S) := pe_imp ha fun σ H Q h => tx_map (R := RV X.K) (R' := RP X.K) (f := VP.v) (fun _ _ _ _ _ _ x => x) h
theorem rp_l {m : En → Sto → UM (List U)} (ha : PE X a (TX X.K T ec W (RF X.K) m)) : PE X a (TX X.K T ec W (RP X.K) fun ρ S => bindO (m ρ S) fun u S => pureO (.l u) S) := pe_imp ha fun σ H Q h => tx_map (R := RF X.K) (R' := RP X.K) (f := VP.l) (fun _ _ _ _ _ _ x => x) h
/-- what is put into a slot -/
def PutOk (K : PySem.W.Frag) (B : Bs) (μ : List Addr) (J H : Hp) (u : VP) (v : V) : Prop := match u with
  | .v u => RU K μ J u v
  | .l us => ∃ p vs, v = .ref p ∧ H p = some (.lst vs) ∧ J p = none ∧ p ∉ μ ∧ Fr0 B.H p ∧ RUs K μ J us vs
theorem put_of {u : VP} {v : V} (r : RS X.K T B μ J ρ S σ H) (h : RP X.K H μ1 J1 H1 u v) : PutOk X.K B μ1 J1 H1 u v := by
  cases u with
  | v u => exact h
  | l us =>
    obtain ⟨p, vs, e, f, h1, h2, h3, h4⟩ := h
    exact ⟨p, vs, e, h1, h2, h3, r.st.th p f, h4⟩
theorem PutOk.step {K : PySem.W.Frag} {u : VP} {v : V} (h : PutOk K B μ J H u v) (st : Step μ J H μ1 J1 H1) : PutOk K B μ1 J1 H1 u v := by
  cases u with
  | v u => exact st.ru h
  | l us =>
    obtain ⟨p, vs, e, h1, h2, h3, h4, h5⟩ := h
    obtain ⟨k1, k2, k3⟩ := st.keep h1 h2 h3
    exact ⟨p, vs, e, k1, k2, k3, h4, st.rus h5⟩
theorem RS.put {i : Nat} {u : VP} {v : V} (r : RS X.K T B μ J ρ S σ H) (h : PutOk X.K B μ J H u v) (hn : ∀ us, u = .l us → ∀ (j : Nat) (ws : List U) (q : Addr), v = .ref q → ρ[j]? = some (Slot.own ws) → σ[j]? ≠ some (some (V.ref q))) :
    RS X.K T B μ J (ρ.set i (slotP u)) S (σ.set i (some v)) H := by
  cases u with
  | v u => exact r.setV i h
  | l us =>
    obtain ⟨p, vs, rfl, h1, h2, h3, h4, h5⟩ := h
    exact r.setOwn h1 h2 h3 h4 (fun j ws e => hn us rfl j ws p rfl e) h5
theorem par_fin {i j : Nat} {ma mb : En → Sto → UM VP} {D : Ends} (h : SV X T ec W B (fun ρ S => bindE (ma ρ S) fun u S => bindE (mb ρ S) fun w S => nxS ((ρ.set i (slotP u)).set j (slotP w)) S) D σ H) :
    TX X.K T ec W (RP X.K) ma σ H fun v H1 => TX X.K T ec W (RP X.K) mb σ H1 fun w H2 => D.nx ((σ.set i (some v)).set j (some w)) H2 := by
  obtain ⟨ρ, S, μ, J, r, h⟩ := h
  refine tx_mono (tx_stmt r h) fun v H1 ⟨u, S1, μ1, J1, r1, st1, rv, h1⟩ => ?_
  refine tx_mono (tx_stmt r1 h1) fun w H2 ⟨u2, S2, μ2, J2, r2, st2, rw, h2⟩ => ?_
  have k1 := (put_of r rv).step st2
  have k2 := put_of r1 rw
  have r3 := r2.put (i := i) k1 (fun us e j ws q ev e1 => by
    subst e
    obtain ⟨p, vs, e2, f, _⟩ := rv
    rw [e2] at ev; cases ev
    exact r.rel.notOwn f j ws e1)
  have r4 := r3.put (i := j) k2 (fun us e j ws q ev e1 => by
    subst e
    obtain ⟨p, vs, e2, f, _⟩ := rw
    rw [e2] at ev; cases ev
    by_cases z : i = j
    · subst z
      have hi : i < ρ.length := by
        have := (List.getElem?_eq_some_iff.mp e1).1
        simpa using this
      have hj : i < σ.length := by rw [← r2.rel.len]; exact hi
      rw [List.getElem?_set_self hi] at e1
      rw [List.getElem?_set_self hj]
      intro e3
      cases e3
      cases u with
      | v u => cases e1
      | l us2 =>
        obtain ⟨q, vs2, e4, f4, h4, _⟩ := rv
        cases e4
        exact Fr0.no h4 (fun ps z => by cases z) f
    · rw [List.getElem?_set_ne z] at e1 ⊢
      exact r1.rel.notOwn f j ws e1)
  exact fin_nx r4 h2
theorem rs_par {i j : Nat} {x y : Str} {ma mb : En → Sto → UM VP} {px py pt pt2 : Pos} {kt k2 : Nat} (hc : X.calm = true) (hN : X.N.Nodup) (hi : X.N[i]? = some x) (hj : X.N[j]? = some y) (hij : i ≠ j)
    (hx : X.env.scope.names.lookup x = some .local) (hy : X.env.scope.names.lookup y = some .local) (hw : swappedStores [.Tuple [.Name x px, .Name y py] kt pt] (.Tuple [a, b] k2 pt2) X.env = pure (some [x, y]))
    (hs : starEach [a, b] X.env = (false, eval a X.env) :: starEach [b] X.env) (hs2 : starEach [b] X.env = [(false, eval b X.env)]) (ha : PE X a (TX X.K T ec W (RP X.K) ma)) (hb : PE X b (TX X.K T ec W (RP X.K) mb)) :
    PS X (.Assign [.Tuple [.Name x px, .Name y py] kt pt] (.Tuple [a, b] k2 pt2) pos) (SV X T ec W B fun ρ S => bindE (ma ρ S) fun u S => bindE (mb ρ S) fun w S => nxS ((ρ.set i (slotP u)).set j (slotP w)) S) := by
  have he0 : starEach ([] : List Expr) X.env = [] := rfl
  refine ps_imp (ps_par hc hN hi hj hij hx hy (pa_cons ha (pa_cons hb pa_nil (by rw [hs2, he0])) (by rw [hs])) hw) fun D σ H h => ?_
  refine tx_mono (par_fin h) fun v H1 h1 => tx_mono h1 fun w H2 h2 => ?_
  exact ⟨v, w, rfl, h2⟩
theorem RS.tmp {t : Addr} {o : HO} (r : RS X.K T B μ J ρ S σ H) (ht : H t = none) : RS X.K T B μ J ρ S σ (upd H t o) ∧ Step μ J H μ J (upd H t o) := by
  obtain ⟨st, rel, _, _⟩ := r.rel.tmp (o := o) ht
  exact ⟨r.step st rel, st⟩
/-- the same where the names are not all plain: through a tuple -/
theorem rs_par2 {i j : Nat} {x y : Str} {ma mb : En → Sto → UM VP} {px py pt pt2 : Pos} {kt k2 : Nat} (hc : X.calm = true) (hN : X.N.Nodup) (hi : X.N[i]? = some x) (hj : X.N[j]? = some y)
    (hx : Loc X.env.scope x) (hy : Loc X.env.scope y) (fx : X.fn x = true ∨ X.env.scope.names.lookup x = some .local) (fy : X.fn y = true ∨ X.env.scope.names.lookup y = some .local)
    (hae : assignEach [.Name x px, .Name y py] X.env = [(false, assign (.Name x px) X.env), (false, assign (.Name y py) X.env)]) (hae2 : assignEach [.Name y py] X.env = [(false, assign (.Name y py) X.env)])
    (hw : swappedStores [.Tuple [.Name x px, .Name y py] kt pt] (.Tuple [a, b] k2 pt2) X.env = pure none)
    (hs : starEach [a, b] X.env = (false, eval a X.env) :: starEach [b] X.env) (hs2 : starEach [b] X.env = [(false, eval b X.env)]) (ha : PE X a (TX X.K T ec W (RP X.K) ma)) (hb : PE X b (TX X.K T ec W (RP X.K) mb)) :
    PS X (.Assign [.Tuple [.Name x px, .Name y py] kt pt] (.Tuple [a, b] k2 pt2) pos) (SV X T ec W B fun ρ S => bindE (ma ρ S) fun u S => bindE (mb ρ S) fun w S => nxS ((ρ.set i (slotP u)).set j (slotP w)) S) := by
  have he0 : starEach ([] : List Expr) X.env = [] := rfl
  have ha0 : assignEach ([] : List Expr) X.env = [] := rfl
  have hg : PG X (.Tuple [.Name x px, .Name y py] kt pt) (gTup X.K 2 (gCons (gName i) (gCons (gName j) gNil))) :=
    pg_tup hc (pgs_cons (pg_name hN hi hx fx) (pgs_cons (pg_name hN hj hy fy) pgs_nil (by rw [hae2, ha0]; rfl)) (by rw [hae, hae2]; rfl)) (by rw [hae]; rfl) (by rw [hae]; rfl)
  refine ps_imp (ps_asg (pe_tup (pa_cons ha (pa_cons hb pa_nil (by rw [hs2, he0])) (by rw [hs]))) hg rfl hw rfl) fun D σ H h => ?_
  obtain ⟨ρ, S, μ, J, r, h⟩ := h
  refine tx_mono (tx_stmt r h) fun v H1 ⟨u, S1, μ1, J1, r1, st1, rv, h1⟩ => ?_
  refine tx_mono (tx_stmt r1 h1) fun w H2 ⟨u2, S2, μ2, J2, r2, st2, rw, h2⟩ => ?_
  refine ⟨by show 2 ≤ sizeLine; decide, fun t ht => ?_⟩
  obtain ⟨r20, st20⟩ := r2.tmp (o := .tup [v, w]) ht
  have k1 := ((put_of r rv).step st2).step st20
  have k2 := (put_of r1 rw).step st20
  have r3 := r20.put (i := i) k1 (fun us e j ws q ev e1 => by
    subst e
    obtain ⟨p, vs, e2, f, _⟩ := rv
    rw [e2] at ev; cases ev
    exact r.rel.notOwn f j ws e1)
  have r4 := r3.put (i := j) k2 (fun us e j ws q ev e1 => by
    subst e
    obtain ⟨p, vs, e2, f, _⟩ := rw
    rw [e2] at ev; cases ev
    by_cases z : i = j
    · subst z
      have hi : i < ρ.length := by
        have := (List.getElem?_eq_some_iff.mp e1).1
        simpa using this
      have hj : i < σ.length := by rw [← r2.rel.len]; exact hi
      rw [List.getElem?_set_self hi] at e1
      rw [List.getElem?_set_self hj]
      intro e3
      cases e3
      cases u with
      | v u => cases e1
      | l us2 =>
        obtain ⟨q, vs2, e4, f4, h4, _⟩ := rv
        cases e4
        exact Fr0.no h4 (fun ps z => by cases z) f
    · rw [List.getElem?_set_ne z] at e1 ⊢
      exact r1.rel.notOwn f j ws e1)
  exact ⟨t, [v, w], rfl, SqT.of upd_same, rfl, v, [w], rfl, w, [], rfl, rfl, fin_nx r4 h2⟩
/-- names = a tuple -/
theorem rs_unp {tg : Tg} {tgE : Expr} (hg : PG X tgE (gOf X.K tg)) (hs : swapsWithSole [tgE] a pos.line X.env = pure false) (hw : swappedStores [tgE] a X.env = pure none) (h1 : (assignEach [tgE] X.env).map (·.2) = [assign tgE X.env]) (ha : PE X a (EV X T ec W ma)) :
    PS X (.Assign [tgE] a pos) (SV X T ec W B fun ρ S => bindE (ma ρ S) fun u S => optS (setTg tg u ρ) S) :=
  ps_imp (ps_asg ha hg hs hw h1) fun D σ H ⟨ρ, S, μ, J, r, h⟩ => by
    refine tx_mono (tx_stmt r h) fun v H1 ⟨u, S1, μ1, J1, r1, st, ru, h1⟩ => ?_
    match e4 : setTg tg u ρ, h1 with
    | none, h1 => exact h1.elim
    | some ρ', h1 =>
      refine tg_read r1.rel ru e4 fun σ' rel' _ ok => ?_
      exact fin_nx ⟨rel', r1.st, fun j ws q e5 e6 => r1.own j ws q (ok j ws q e5 e6).1 (ok j ws q e5 e6).2⟩ h1
/-! ### a comprehension put into a plain name -/
section
variable {i : Nat} {y : Str} {py spos : Pos} {elt tgE iter : Expr} {ifs : List Expr} {scope : Scope} {own : List (Str × Nat)} {tg : Tg} {mi : En → Sto → UM (List U)} {mt : En → Sto → UM Bool} {me : En → Sto → UM U}
abbrev compM (tg : Tg) (own : List (Str × Nat)) (mi : En → Sto → UM (List U)) (mt : En → Sto → UM Bool) (me : En → Sto → UM U) : En → Sto → UM (List U) :=
  fun ρ S => bindO (mi ρ S) fun xs S => if xs.length ≤ line then compL (compEv tg (own.map (·.2)) mt me ρ) xs S else none
theorem ps_lcm {TSm : TS} (hc : X.calm = true) (hN : X.N.Nodup) (hy : X.N[i]? = some y) (hyl : X.env.scope.names.lookup y = some .local)
    (hsw : swapsWith (.ListComp elt [⟨tgE, iter, ifs, 0⟩] scope pos) (some (.Name y py)) spos.line X.env = pure true)
    (hi : PI X tgE iter (TX X.K T ec W (RI X.K T) mi)) (ok : BlkOk X.N X.env.scope scope own)
    (hg : ∀ (s : Shared) (H : Hp) (C : Addr) (cl : List (Str × Addr)) (fp : List Addr), PG (X.blk s H scope (compEnvC scope cl C X.env) fp) tgE (gOf X.K tg))
    (hT : ∀ i ∈ tgS tg, i ∈ own.map (·.2))
    (ht : ∀ (s : Shared) (H : Hp) (C : Addr) (cl : List (Str × Addr)) (fp : List Addr), PTs (X.blk s H scope (compEnvC scope cl C X.env) fp) ifs (TX X.K T ec W0 RBB mt))
    (he : ∀ (s : Shared) (H : Hp) (C : Addr) (cl : List (Str × Addr)) (fp : List Addr), PE (X.blk s H scope (compEnvC scope cl C X.env) fp) elt (TX X.K T ec W0 (RV X.K) me))
    (hs : ∀ x, foldedSetIterable iter X.env x = pure x)
    (hm : ∀ D σ H, TSm D σ H → TX X.K T ec W (RF X.K) (compM tg own mi mt me) σ H (fun v H1 => D.nx (σ.set i (some v)) H1)) :
    PS X (.Assign [.Name y py] (.ListComp elt [⟨tgE, iter, ifs, 0⟩] scope pos) spos) TSm :=
  ps_imp (ps_setLc hc hN hy hyl hsw hi ok hg ht he hs) fun D σ H h => comp_read hT σ H _ (hm D σ H h)
end
theorem alc_fin {i : Nat} {m : En → Sto → UM (List U)} {D : Ends} (h : SV X T ec W B (fun ρ S => bindE (m ρ S) fun us S => nxS (ρ.set i (.v (.ref S.length))) (S ++ [us])) D σ H) : TX X.K T ec W (RF X.K) m σ H (fun v H1 => D.nx (σ.set i (some v)) H1) := by
  obtain ⟨ρ, S, μ, J, r, h⟩ := h
  refine tx_mono (tx_stmt r h) fun v H1 ⟨us, S1, μ1, J1, r1, st, rf, h1⟩ => ?_
  obtain ⟨p, vs, rfl, hp, hp1, hJ, hm, ru⟩ := rf
  obtain ⟨rel2, ru2, pre2⟩ := r1.rel.push hp1 hJ hm (r.rel.notOwn hp) ru
  have st2 : Step B.μ B.J B.H (μ1 ++ [p]) J1 H1 := by
    obtain ⟨⟨t, e, f⟩, a2, a3, a4, a5⟩ := r1.st
    refine ⟨⟨t ++ [p], by rw [e, List.append_assoc], fun c hc => ?_⟩, a2, a3, a4, a5⟩
    rcases List.mem_append.mp hc with z | z
    · exact f c z
    · have : c = p := by simpa using z
      subst this
      exact B_none r hp
  have r2 : RS X.K T B (μ1 ++ [p]) J1 ρ (S1 ++ [us]) σ H1 := ⟨rel2, st2, r1.own⟩
  exact fin_nx2 (r2.setV i ru2) pre2 (Sub.refl _) h1
theorem asgL_fin {i : Nat} {m : En → Sto → UM (List U)} {D : Ends} (h : SV X T ec W B (fun ρ S => bindE (bindO (m ρ S) fun us S => pureO (.lst us) S) fun u S => nxS (ρ.set i (.v u)) S) D σ H) : TX X.K T ec W (RF X.K) m σ H (fun v H1 => D.nx (σ.set i (some v)) H1) := by
  obtain ⟨ρ, S, μ, J, r, h⟩ := h
  refine ofL_read _ _ _ ?_
  refine tx_mono (tx_stmt (R := RV X.K) (m := fun ρ S => bindO (m ρ S) fun us S => pureO (U.lst us) S) (f := fun u S => nxS (ρ.set i (.v u)) S) r h) fun (v : V) H1 h9 => ?_
  obtain ⟨u, S1, μ1, J1, r1, st, ru, h1⟩ := h9
  exact fin_nx (r1.setV i ru) h1
end
end Wy
end
section
set_option maxRecDepth 100000
set_option maxHeartbeats 2000000
namespace Wy
open PySem PySem.Spec PyProof.Rows L2
section
variable {X : Cx} {T : List (Addr × Str)} {ec : Str → Addr} {W : WX}
theorem rt_chain {a b c : Expr} {ma mb mc : En → Sto → UM U} {o1 o2 : Cop} {pos : Pos} (hu : X.A.units + 64 < cLine) (hm : lastMarks [copOf o1, copOf o2] [b, c] = false) (ha : PE X a (EV X T ec W ma)) (hb : PE X b (EV X T ec W mb)) (hc : PE X c (EV X T ec W mc)) :
    PT X (.Compare a [copOf o1, copOf o2] [b, c] pos) (TV X T ec W (chainU ma mb mc o1 o2)) := by
  obtain ⟨r1, hr1, k1⟩ := cmp_all (X := X) (T := T) hu o1
  obtain ⟨r2, hr2, k2⟩ := cmp_all (X := X) (T := T) hu o2
  refine pt_imp (pt_chain hr1 hr2 ha hb hc hm) fun σ H Q h => ?_
  exact chain_read (ec := ec) (W := W) hu k1 k2 σ H _ (tst_val h)
end
/-! ### kinds of expressions -/
def nostar : Expr → Bool
  | .Starred .. => false
  | _ => true
theorem star_of {x : Expr} {es : List Expr} {env : Env} (h : nostar x = true) : starEach (x :: es) env = (false, eval x env) :: starEach es env := by
  cases x <;> first | rfl | (simp [nostar] at h)
theorem star1 {x : Expr} {env : Env} (h : nostar x = true) : starEach [x] env = [(false, eval x env)] := by rw [star_of h]; rfl
theorem asg_of {x : Expr} {es : List Expr} {env : Env} (h : nostar x = true) : assignEach (x :: es) env = (false, assign x env) :: assignEach es env := by
  cases x <;> first | rfl | (simp [nostar] at h)
def plainIx : Expr → Bool
  | .Slice .. => false
  | _ => true
theorem plainIx_ok {x : Expr} (h : plainIx x = true) : PlainIx x := fun o i => by
  cases x <;> first | rfl | (simp [plainIx] at h)
def nocomp : Expr → Bool
  | .ListComp .. => false | .SetComp .. => false | .DictComp .. => false
  | _ => true
theorem swaps_of {x : Expr} {t : Option Expr} {n : Nat} {env : Env} (h : nocomp x = true) : swapsWith x t n env = pure false := by
  cases x <;> first | rfl | (simp [nocomp] at h)
theorem swapsSole_of {x t : Expr} {n : Nat} {env : Env} (h : nocomp x = true) : swapsWithSole [t] x n env = pure false := swaps_of h
def notup : Expr → Bool
  | .Tuple .. => false
  | _ => true
theorem swst_of {x t : Expr} {env : Env} (h : notup x = true) : swappedStores [t] x env = pure none := by
  cases x <;> first | (simp [notup] at h; done) | (cases t <;> rfl)
theorem swst_sub {x a i : Expr} {p : Pos} {env : Env} : swappedStores [.Subscript a i p] x env = pure none := by
  cases x <;> rfl
def noset : Expr → Bool
  | .Set .. => false
  | _ => true
theorem fsi_of {x : Expr} {env : Env} (h : noset x = true) : ∀ v, foldedSetIterable x env v = pure v := fun v => by
  cases x <;> first | rfl | (simp [noset] at h)
theorem bim_of {x : Expr} {o : CmpOp} (h : noset x = true) : behindInMarks o x = false := by
  cases x <;> first | rfl | (simp [noset] at h)
def valT : Expr → Bool
  | .Name .. => true | .Call .. => true | .Subscript .. => true | .Constant .. => true
  | _ => false
theorem isTrue_val {x : Expr} {env : Env} (h : valT x = true) : ∀ whole, isTrue x env whole = (do let v ← whole; standAt x.pos; holding [v] (truthy v)) := fun whole => by
  cases x <;> first | rfl | (simp [valT] at h)
/-! ### two names stored at once -/
theorem sw_pair {env : Env} {x y : Str} {px py pt pt2 : Pos} {kt k2 : Nat} {a b : Expr} (hk : env.scope.kind = .function) (hx : env.scope.names.lookup x = some .local) (hy : env.scope.names.lookup y = some .local) (hxy : x ≠ y) (hl : py.line = px.line)
    (ha : nostar a = true) (hb : nostar b = true) (hf : (foldedForSure 8 a && foldedForSure 8 b) = false) (hc : (constantsAlone 8 a && constantsAlone 8 b) = false) :
    swappedStores [.Tuple [.Name x px, .Name y py] kt pt] (.Tuple [a, b] k2 pt2) env = pure (some [x, y]) := by
  have hbk : env.blockKind = .function := by unfold Env.blockKind; rw [hk]; rfl
  have e1 : env.kindOf x = some .local := hx
  have e2 : env.kindOf y = some .local := hy
  have h1 : ∀ z : Expr, nostar z = true → (match z with | .Starred _ _ => true | _ => false) = false := fun z h => by cases z <;> first | rfl | (simp [nostar] at h)
  have hst : ([a, b].any fun x => match x with | .Starred _ _ => true | _ => false) = false := by
    simp only [List.any_cons, List.any_nil, Bool.or_false, h1 a ha, h1 b hb]
  have hf2 : ([a, b].all (foldedForSure 8)) = false := by simpa using hf
  have hc2 : ([a, b].all (constantsAlone 8)) = false := by simpa using hc
  have hne : ¬ (y = x) := fun e => hxy e.symm
  unfold swappedStores
  simp only [hst, hf2, hc2, hbk, e1, e2, List.length_cons, List.length_nil, List.head?_cons, Option.map_some, Option.getD_some, List.filterMap_cons, List.filterMap_nil, Expr.pos, hl]
  simp [List.eraseDups_cons, hne]
  intro h
  rcases h with h | h
  · cases a <;> first | (simp [nostar] at ha; done) | (simp at h; done)
  · cases b <;> first | (simp [nostar] at hb; done) | (simp at h; done)
theorem sw_pair_none {env : Env} {x y : Str} {px py pt pt2 : Pos} {kt k2 : Nat} {a b : Expr} (h : env.scope.names.lookup x ≠ some .local ∨ env.scope.names.lookup y ≠ some .local) :
    swappedStores [.Tuple [.Name x px, .Name y py] kt pt] (.Tuple [a, b] k2 pt2) env = pure none := by
  have e : ∀ z : Str, (env.kindOf z == some NameKind.local) = decide (env.scope.names.lookup z = some .local) := fun z => by
    show (env.scope.names.lookup z == some NameKind.local) = _
    cases q : env.scope.names.lookup z with
    | none => rfl
    | some k => cases k <;> rfl
  unfold swappedStores
  dsimp only
  split
  · rfl
  · split
    · rfl
    · split
      · rfl
      · rename_i h3
        exfalso
        apply h3
        rw [Bool.or_eq_true]
        left
        rcases h with h | h
        · by_cases q : env.scope.names.lookup y = some .local
          · by_cases l : py.line = px.line <;> simp [List.filterMap_cons, e, h, q, l, Expr.pos]
          · simp [List.filterMap_cons, e, h, q, Expr.pos]
        · by_cases q : env.scope.names.lookup x = some .local
          · simp [List.filterMap_cons, e, h, q, Expr.pos]
          · simp [List.filterMap_cons, e, h, q, Expr.pos]
end Wy
end
section
set_option maxRecDepth 100000
set_option maxHeartbeats 4000000
namespace Wy
open PySem PySem.Spec PyProof.Rows L2
/-! ### the tongue against the text: expressions -/
structure Info where
  gInt : List (Str × Int)
  gStr : List (Str × Str)
  fns : List (Str × Nat)
  exc : List Str
  dgs : List (Str × List (Str × Int))
  free : List Str
  word : Str
structure Ck where
  N : List Str
  sc : Scope
  fn : Str → Bool
  lam : Bool
section
variable (I : Info)
def ixB (C : Ck) (i : Nat) (x : Str) : Bool := decide (C.N[i]? = some x)
def visB (C : Ck) (x : Str) : Bool := (match C.sc.names.lookup x with
  | some .local => true | some .cell => true | some .free => true | _ => false) && (!(x == ("__debug__" : Str)) && !(x == ("__classdict__" : Str)))
def glB (C : Ck) (x : Str) : Bool := decide (C.sc.names.lookup x = some .globalImplicit) && !(x == ("__debug__" : Str))
def bltB (C : Ck) (x : Str) : Bool := glB C x && decide (x ∈ I.free)
def locB (C : Ck) (x : Str) : Bool := match C.sc.names.lookup x with
  | some .local => true
  | some .cell => C.fn x
  | _ => false
def tgB (C : Ck) : Tg → Expr → Bool
  | .n i, .Name x _ => ixB C i x && locB C x
  | .t2 i j, .Tuple [.Name x _, .Name y _] _ _ => (ixB C i x && locB C x) && (ixB C j y && locB C y)
  | .t3 i j k, .Tuple [.Name x _, .Name y _, .Name z _] _ _ => (ixB C i x && locB C x) && ((ixB C j y && locB C y) && (ixB C k z && locB C z))
  | _, _ => false
def uConst : U → Expr → Bool
  | .non, .Constant .none _ _ => true
  | .bl b, .Constant (.bool c) _ _ => decide (b = c)
  | .int b, .Constant (.int c) _ _ => decide (b = c)
  | .str b, .Constant (.str c) _ _ => decide (b = c)
  | _, _ => false
def gloB (x : Str) : U → Bool
  | .int i => decide ((x, i) ∈ I.gInt)
  | .str s => decide ((x, s) ∈ I.gStr)
  | _ => false
def blkCk (C : Ck) (scope : Scope) : Ck := ⟨C.N, relS scope C.sc, fun x => scope.names.lookup x == some .cell, false⟩
def lamCk (C : Ck) (scope : Scope) : Ck := ⟨C.N, scope, fun _ => false, false⟩
def noPar : Arguments → Bool
  | ⟨[], [], none, [], [], none, []⟩ => true
  | _ => false
def onePar : Arguments → Str → Bool
  | ⟨[], [⟨y, none, _⟩], none, [], [], none, []⟩, x => decide (y = x) && decide (x = "pair")
  | _, _ => false
def oneScope (sc : Scope) (x : Str) : Bool := (match sc.kind with | .function => true | _ => false) && (!sc.isCoroutine && (!sc.isGenerator && (decide (sc.names = [(x, .local)]) && !(x == ("__debug__" : Str)))))
def isN0 : CEs → Bool
  | .nil => true
  | _ => false
mutual
def ckE : CE → Ck → Expr → Bool
  | .var i, C, e => (match e with | .Name x _ => ixB C i x && visB C x | _ => false)
  | .k u, _, e => uConst u e
  | .glo x u, C, e => (match e with | .Name y _ => decide (y = x) && (glB C x && gloB I x u) | _ => false)
  | .tup es, C, e => (match e with | .Tuple xs _ _ => ckEs es C xs | _ => false)
  | .ofL l, C, e => ckL l C e
  | .emp, _, e => (match e with | .Dict [] [] _ => true | _ => false)
  | .bin o a b, C, e => (match e with | .BinOp x op y _ => decide (op = bopOf o) && (ckE a C x && ckE b C y) | _ => false)
  | .neg a, C, e => (match e with | .UnaryOp .USub x _ => ckE a C x | _ => false)
  | .cmp o a b, C, e => (match e with | .Compare x [op] [y] _ => decide (op = copOf o) && (noset y && (ckE a C x && ckE b C y)) | _ => false)
  | .isN a, C, e => (match e with | .Compare x [.Is] [.Constant .none _ _] _ => ckE a C x | _ => false)
  | .notN a, C, e => (match e with | .Compare x [.IsNot] [.Constant .none _ _] _ => ckE a C x | _ => false)
  | .isB b a, C, e => (match e with | .Compare x [.Is] [.Constant (.bool c) _ _] _ => decide (c = b) && ckE a C x | _ => false)
  | .notB b a, C, e => (match e with | .Compare x [.IsNot] [.Constant (.bool c) _ _] _ => decide (c = b) && ckE a C x | _ => false)
  | .chain o1 o2 a b c, C, e => (match e with | .Compare x [p1, p2] [y, z] _ => (decide (p1 = copOf o1) && decide (p2 = copOf o2)) && ((noset y && noset z) && (ckE a C x && (ckE b C y && ckE c C z))) | _ => false)
  | .not a, C, e => (match e with | .UnaryOp .Not x _ => ckE a C x | _ => false)
  | .and es, C, e => (match e with | .BoolOp .And xs _ => !isN0 es && ckEs es C xs | _ => false)
  | .or es, C, e => (match e with | .BoolOp .Or xs _ => !isN0 es && ckEs es C xs | _ => false)
  | .ite c a b, C, e => (match e with | .IfExp x y z _ => ckE c C x && (ckE a C y && ckE b C z) | _ => false)
  | .sub a i, C, e => (match e with | .Subscript x y _ => plainIx y && (ckE a C x && ckE i C y) | _ => false)
  | .slc a lo hi, C, e => (match e with | .Subscript x (.Slice l h none _) _ => ckE a C x && (ckO lo C l && ckO hi C h) | _ => false)
  | .rev a, C, e => (match e with | .Subscript x (.Slice none none (some (.UnaryOp .USub (.Constant (.int j) _ _) _)) _) _ => decide (j = 1) && ckE a C x | _ => false)
  | .call f es, C, e => (match e with | .Call (.Name x _) xs [] _ => (match I.fns[f]? with | some (y, n) => decide (x = y) && (glB C x && (!isN0 es && ckEs es C xs)) | none => false) | _ => false)
  | .blt f a, C, e => (match e with | .Call (.Name x _) [y] [] _ => decide (x = bfN f) && (bltB I C x && (nostar y && ckE a C y)) | _ => false)
  | .isi a t, C, e => (match e with | .Call (.Name x _) [y, .Name z _] [] _ => (decide (x = "isinstance") && decide (z = tyStr t)) && ((bltB I C x && bltB I C z) && (nostar y && ckE a C y)) | _ => false)
  | .olen i, C, e => (match e with | .Call (.Name x _) [.Name y _] [] _ => (decide (x = "len") && bltB I C x) && (ixB C i y && visB C y) | _ => false)
  | .dget x kvs a d, C, e => (match e with | .Call (.Attribute (.Name y _) m apos) [z, .Constant (.int j) _ _] [] cpos => (decide (y = x) && (decide (m = "get") && decide (j = d))) && ((glB C x && decide ((x, kvs) ∈ I.dgs)) && ((apos.endLine == cpos.line) && (nostar z && ckE a C z))) | _ => false)
  | .word a, C, e => (match e with | .Call (.Name x _) [.Lambda params body scope _] [] _ => (decide (x = I.word) && (C.lam && glB C x)) && (noPar params && (LamX.lamSB C.sc scope && ckE a (lamCk C scope) body)) | _ => false)
  | .sortL a, C, e => (match e with | .Call (.Name x _) [y] [] _ => decide (x = "sorted") && (bltB I C x && (nostar y && ckE a C y)) | _ => false)
  | .sortK a, C, e => (match e with | .Call (.Name x _) [y] [⟨some kw, .Lambda params (.Subscript (.Name z _) (.Constant (.int j) _ _) _) scope _, _⟩] _ => (decide (x = "sorted") && (bltB I C x && (C.lam && (decide (kw = "key") && decide (j = 0))))) && ((onePar params z && oneScope scope z) && (nostar y && ckE a C y)) | _ => false)
  | .stop, _, _ => true
def ckEs : CEs → Ck → List Expr → Bool
  | .nil, _, xs => (match xs with | [] => true | _ => false)
  | .cons e es, C, xs => (match xs with | x :: r => (nostar x && ckE e C x) && ckEs es C r | [] => false)
def ckO : CO → Ck → Option Expr → Bool
  | .no, _, o => (match o with | none => true | _ => false)
  | .so e, C, o => (match o with | some x => ckE e C x | none => false)
def ckL : CL → Ck → Expr → Bool
  | .disp es, C, e => (match e with | .List xs _ => ckEs es C xs | _ => false)
  | .comp elt tg it c own, C, e => (match e with | .ListComp x [⟨t, y, ifs, 0⟩] scope _ => (ckI it C t y && (noset y && blkC C.N C.sc scope own)) && ((tgB (blkCk C scope) tg t && (tgS tg).all fun i => decide (i ∈ own.map (·.2))) && (ckT c (blkCk C scope) ifs && ckE elt (blkCk C scope) x)) | _ => false)
def ckI : CI → Ck → Expr → Expr → Bool
  | .seq a, C, _, y => ckE a C y
  | .range a, C, _, y => (match y with | .Call (.Name x _) [z] [] _ => decide (x = "range") && (bltB I C x && (nostar z && ckE a C z)) | _ => false)
  | .range2 a b, C, _, y => false
  | .zip a b, C, t, y => (match t, y with | .Tuple _ _ _, .Call (.Name x _) [z, z2] [] _ => decide (x = "zip") && (bltB I C x && ((nostar z && nostar z2) && (ckE a C z && ckE b C z2))) | _, _ => false)
def ckT : CO → Ck → List Expr → Bool
  | .no, _, xs => (match xs with | [] => true | _ => false)
  | .so e, C, xs => (match xs with | [x] => ckE e C x | _ => false)
end
end
end Wy
end
section
set_option maxRecDepth 100000
set_option maxHeartbeats 4000000
namespace Wy
open PySem PySem.Spec PyProof.Rows L2
/-- what holds of the module's names -/
structure GOk (I : Info) (prog : Program) (w : World) (K : PySem.W.Frag) (mg : Str → Option Value) (base : Heap) (T : List (Addr × Str)) (ec : Str → Addr) (k : Nat) (fn : Nat → List U → Sto → UM U) : Prop where
  int : ∀ p ∈ I.gInt, GloOk K mg p.1 (.int p.2)
  str : ∀ p ∈ I.gStr, GloOk K mg p.1 (.str p.2)
  free : ∀ x ∈ I.free, mg x = none
  fns : ∀ (i : Nat) (x : Str) (n : Nat), I.fns[i]? = some (x, n) → ∃ f fd ps, FnOk prog w K mg base (L2.CX prog w) k f fd ps (spU K T ec n (fn i)) ∧ mg x = some (.ref f) ∧ PySem.W.keepIn K (.ref f) = true ∧ Binds K fd ps []
  ar : ∀ (i : Nat) (x : Str) (n : Nat), I.fns[i]? = some (x, n) → ∀ us S, us.length ≠ n → fn i us S = none
  exc : ∀ x ∈ I.exc, ExcOk K mg ec x
  dg : ∀ p ∈ I.dgs, DgOk K w mg p.1 p.2
/-- what is asked of a call of the def that calls its lambda -/
def WordOk (I : Info) (T : List (Addr × Str)) (ec : Str → Addr) (wd : UM U → UM U) (X : Cx) (W : WX) (k : Nat) : Prop :=
  ∀ {params : Arguments} {body : Expr} {scope : Scope} {p lpos pos : Pos} {ma : En → Sto → UM U}, noPar params = true → LamX.LamS X.env.scope scope → Gl X I.word →
    (∀ (A : Around) (outer : List Env) (s : Shared) (H : Hp) (E : XK) (f c' : Addr), Room k (A.deeper (LamX.lamEnv X scope s.heap.objs.size f c')) → PE (LamX.lamCx X A outer s H E scope f c') body (TX X.K T ec (fun cls d _ H => E cls d H) (RV X.K) ma)) →
    PE X (.Call (.Name I.word p) [.Lambda params body scope lpos] [] pos) (EV X T ec W fun ρ S => wd (ma ρ S))
/-- where a lambda may be made -/
def LamOk (T : List (Addr × Str)) (X : Cx) : Prop := ∃ c P, LamX.TabB X.base X.mg c P ∧ X.env.code = .ref c ∧ (P, X.env.qual ++ "<lambda>") ∈ T ∧ ∀ p ∈ T, p.1 = P → p.2 = X.env.qual ++ "<lambda>"
structure XOk (I : Info) (T : List (Addr × Str)) (ec : Str → Addr) (k : Nat) (fn : Nat → List U → Sto → UM U) (wd : UM U → UM U) (C : Ck) (X : Cx) (W : WX) : Prop where
  N : X.N = C.N
  sc : X.env.scope = C.sc
  fx : X.fn = C.fn
  calm : X.calm = true
  nd : X.N.Nodup
  un : X.A.units + 64 < cLine
  tk : Takes X W
  g : GOk I X.prog X.w X.K X.mg X.base T ec k fn
  room : Room k X.A
  lam : C.lam = true → LamOk T X ∧ Room (k + 2) X.A ∧ WordOk I T ec wd X W k
section
variable {I : Info} {T : List (Addr × Str)} {ec : Str → Addr} {k : Nat} {fn : Nat → List U → Sto → UM U} {wd : UM U → UM U} {C : Ck} {X : Cx} {W : WX}
theorem andB {a b : Bool} (h : (a && b) = true) : a = true ∧ b = true := Bool.and_eq_true_iff.mp h
theorem XOk.ix (q : XOk I T ec k fn wd C X W) {i : Nat} {x : Str} (h : ixB C i x = true) : X.N[i]? = some x := by
  rw [q.N]; exact of_decide_eq_true h
theorem XOk.vis (q : XOk I T ec k fn wd C X W) {x : Str} (h : visB C x = true) : Vis X.env.scope x ∧ (x == ("__debug__" : Str)) = false ∧ (x == ("__classdict__" : Str)) = false := by
  obtain ⟨h1, h2⟩ := andB h
  obtain ⟨h2, h3⟩ := andB h2
  refine ⟨?_, by simpa using h2, by simpa using h3⟩
  unfold Vis
  rw [q.sc]
  split at h1
  · exact .inl (by assumption)
  · exact .inr (.inl (by assumption))
  · exact .inr (.inr (by assumption))
  · cases h1
theorem XOk.gl (q : XOk I T ec k fn wd C X W) {x : Str} (h : glB C x = true) : Gl X x ∧ (x == ("__debug__" : Str)) = false := by
  obtain ⟨h1, h2⟩ := andB h
  refine ⟨?_, by simpa using h2⟩
  show X.env.scope.names.lookup x = some .globalImplicit
  rw [q.sc]
  exact of_decide_eq_true h1
theorem XOk.blt (q : XOk I T ec k fn wd C X W) {x : Str} (h : bltB I C x = true) : Gl X x ∧ X.mg x = none := by
  obtain ⟨h1, h2⟩ := andB h
  exact ⟨(q.gl h1).1, q.g.free x (of_decide_eq_true h2)⟩
theorem XOk.loc (q : XOk I T ec k fn wd C X W) {x : Str} (h : locB C x = true) : L2.Loc X.env.scope x ∧ (X.fn x = true ∨ X.env.scope.names.lookup x = some .local) := by
  unfold locB at h
  unfold L2.Loc
  rw [q.sc, q.fx]
  split at h
  · rename_i e; exact ⟨.inl e, .inr e⟩
  · rename_i e; exact ⟨.inr e, .inl h⟩
  · cases h
theorem XOk.pgn (q : XOk I T ec k fn wd C X W) {i : Nat} {x : Str} {p : Pos} (h : (ixB C i x && locB C x) = true) : PG X (.Name x p) (gName i) := by
  obtain ⟨h1, h2⟩ := andB h
  obtain ⟨h3, h4⟩ := q.loc h2
  exact pg_name q.nd (q.ix h1) h3 h4
theorem XOk.tg (q : XOk I T ec k fn wd C X W) {tg : Tg} {e : Expr} (h : tgB C tg e = true) : PG X e (gOf X.K tg) := by
  have a0 : assignEach ([] : List Expr) X.env = [] := rfl
  cases tg with
  | n i =>
    cases e with
    | Name x p => exact q.pgn h
    | _ => cases h
  | t2 i j =>
    unfold tgB at h
    split at h
    · rename_i e1; cases e1
    · rename_i i' j' x px y py kk pp e1
      cases e1
      obtain ⟨h1, h2⟩ := andB h
      exact pg_tup q.calm (pgs_cons (q.pgn h1) (pgs_cons (q.pgn h2) pgs_nil rfl) rfl) rfl rfl
    · rename_i e1; cases e1
    · cases h
  | t3 i j l =>
    unfold tgB at h
    split at h
    · rename_i e1; cases e1
    · rename_i e1; cases e1
    · rename_i i' j' l' x px y py z pz kk pp e1
      cases e1
      obtain ⟨h1, h2⟩ := andB h
      obtain ⟨h2, h3⟩ := andB h2
      exact pg_tup q.calm (pgs_cons (q.pgn h1) (pgs_cons (q.pgn h2) (pgs_cons (q.pgn h3) pgs_nil rfl) rfl) rfl) rfl rfl
    · cases h
/-- inside a comprehension -/
theorem XOk.blk (q : XOk I T ec k fn wd C X W) {scope : Scope} {s : Shared} {H : Hp} {Cc : Addr} {cl : List (Str × Addr)} {fp : List Addr} : XOk I T ec k fn wd (blkCk C scope) (X.blk s H scope (compEnvC scope cl Cc X.env) fp) W0 where
  N := q.N
  sc := by
    show relS scope X.env.scope = relS scope C.sc
    rw [q.sc]
  fx := rfl
  calm := q.calm
  nd := q.nd
  un := q.un
  tk := LamX.takes0
  g := q.g
  room := q.room
  lam := fun h => by cases h
/-- inside a lambda -/
theorem XOk.lamb (q : XOk I T ec k fn wd C X W) {scope : Scope} {A : Around} {outer : List Env} {s : Shared} {H : Hp} {E : XK} {f c' : Addr} (hr : Room k (A.deeper (LamX.lamEnv X scope s.heap.objs.size f c'))) :
    XOk I T ec k fn wd (lamCk C scope) (LamX.lamCx X A outer s H E scope f c') (fun cls d _ H => E cls d H) where
  N := q.N
  sc := rfl
  fx := rfl
  calm := rfl
  nd := q.nd
  un := by have := hr.un; show (A.deeper (LamX.lamEnv X scope s.heap.objs.size f c')).units + 64 < cLine; omega
  tk := takes_of (X := LamX.lamCx X A outer s H E scope f c') rfl rfl rfl rfl
  g := q.g
  room := hr
  lam := fun h => by cases h
end
theorem noPar_eq {a : Arguments} (h : noPar a = true) : a = ⟨[], [], none, [], [], none, []⟩ := by
  unfold noPar at h
  split at h
  · rfl
  · cases h
theorem onePar_eq {a : Arguments} {x : Str} (h : onePar a x = true) : x = "pair" ∧ ∃ p, a = ⟨[], [⟨x, none, p⟩], none, [], [], none, []⟩ := by
  unfold onePar at h
  split at h
  · obtain ⟨h1, h2⟩ := andB h
    have := of_decide_eq_true h1
    subst this
    exact ⟨of_decide_eq_true h2, _, rfl⟩
  · cases h
theorem bind_one {q : Str} {p : Pos} {body : Expr} {scope : Scope} {cl : List (Str × Addr)} {pm cv ctv v : Value} : bindArgs (PySem.W.kla_fn "<lambda>" q ⟨[], [⟨"pair", none, p⟩], none, [], [], none, []⟩ body scope cl pm cv ctv) ⟨[v], []⟩ = pure [((("pair" : Str)), v)] := by
  rfl
theorem oneScope_ok {sc : Scope} {x : Str} (h : oneScope sc x = true) : sc.kind = .function ∧ sc.isCoroutine = false ∧ sc.isGenerator = false ∧ sc.names = [(x, .local)] ∧ (x == ("__debug__" : Str)) = false := by
  unfold oneScope at h
  obtain ⟨h1, h⟩ := andB h
  obtain ⟨h2, h⟩ := andB h
  obtain ⟨h3, h⟩ := andB h
  obtain ⟨h4, h5⟩ := andB h
  refine ⟨?_, by simpa using h2, by simpa using h3, of_decide_eq_true h4, by simpa using h5⟩
  split at h1
  · assumption
  · cases h1
end Wy
end
section
set_option maxRecDepth 100000
set_option maxHeartbeats 4000000
namespace Wy
open PySem PySem.Spec PyProof.Rows L2
section
variable (I : Info) (T : List (Addr × Str)) (ec : Str → Addr) (k : Nat) (fn : Nat → List U → Sto → UM U) (wd : UM U → UM U)
def SE (e : CE) : Prop := ∀ (C : Ck) (X : Cx) (W : WX) (x : Expr), XOk I T ec k fn wd C X W → ckE I e C x = true → PE X x (EV X T ec W (evE fn wd e)) ∧ PT X x (TV X T ec W (evE fn wd e))
def SEs (es : CEs) : Prop := ∀ (C : Ck) (X : Cx) (W : WX) (xs : List Expr), XOk I T ec k fn wd C X W → ckEs I es C xs = true → PA X xs (TX X.K T ec W (RA X.K) (evEs fn wd es)) ∧ (isN0 es = false → xs ≠ [] ∧ ∀ pos : Pos,
  (PE X (.BoolOp .And xs pos) (EV X T ec W (evAnd fn wd es)) ∧ PW X (.BoolOp .And xs pos) (TW X T ec W (evAnd fn wd es))) ∧ PE X (.BoolOp .Or xs pos) (EV X T ec W (evOr fn wd es)) ∧ PW X (.BoolOp .Or xs pos) (TW X T ec W (evOr fn wd es)))
def SO (o : CO) : Prop := (∀ (C : Ck) (X : Cx) (W : WX) (x : Option Expr), XOk I T ec k fn wd C X W → ckO I o C x = true → PO X x (TX X.K T ec W RO (evO fn wd o))) ∧
  ∀ (C : Ck) (X : Cx) (W : WX) (xs : List Expr), XOk I T ec k fn wd C X W → ckT I o C xs = true → PTs X xs (TX X.K T ec W RBB (evT fn wd o))
def SL (l : CL) : Prop := ∀ (C : Ck) (X : Cx) (W : WX) (x : Expr), XOk I T ec k fn wd C X W → ckL I l C x = true → PE X x (TX X.K T ec W (RF X.K) (evL fn wd l))
def SI (i : CI) : Prop := ∀ (C : Ck) (X : Cx) (W : WX) (t x : Expr), XOk I T ec k fn wd C X W → ckI I i C t x = true → PI X t x (TX X.K T ec W (RI X.K T) (evI fn wd i))
end
section
variable {I : Info} {T : List (Addr × Str)} {ec : Str → Addr} {k : Nat} {fn : Nat → List U → Sto → UM U} {wd : UM U → UM U} {C : Ck} {X : Cx} {W : WX}
theorem byVal {x : Expr} {m : En → Sto → UM U} (hv : valT x = true) (h : PE X x (EV X T ec W m)) : PE X x (EV X T ec W m) ∧ PT X x (TV X T ec W m) := ⟨h, rt_val h (isTrue_val hv)⟩
/-- a value that is no truth is never asked -/
theorem noTest {x : Expr} {m : En → Sto → UM U} (h : PE X x (EV X T ec W m)) (ht : ∀ ρ S u S', m ρ S = some (.ok u, S') → asB u = none) (he : ∀ whole, isTrue x X.env whole = (do let v ← whole; standAt x.pos; holding [v] (truthy v))) : PE X x (EV X T ec W m) ∧ PT X x (TV X T ec W m) := ⟨h, rt_val h he⟩
theorem tupT {es : List Expr} {kk : Nat} {pos : Pos} {env : Env} : ∀ whole, isTrue (.Tuple es kk pos) env whole = (do let v ← whole; standAt (Expr.Tuple es kk pos).pos; holding [v] (truthy v)) := fun _ => rfl
theorem lstT {es : List Expr} {pos : Pos} {env : Env} : ∀ whole, isTrue (.List es pos) env whole = (do let v ← whole; standAt (Expr.List es pos).pos; holding [v] (truthy v)) := fun _ => rfl
theorem lcT {e : Expr} {g : List Comprehension} {sc : Scope} {pos : Pos} {env : Env} : ∀ whole, isTrue (.ListComp e g sc pos) env whole = (do let v ← whole; standAt (Expr.ListComp e g sc pos).pos; holding [v] (truthy v)) := fun _ => rfl
theorem dctT {env : Env} {pos : Pos} : ∀ whole, isTrue (.Dict [] [] pos) env whole = (do let v ← whole; standAt (Expr.Dict [] [] pos).pos; holding [v] (truthy v)) := fun _ => rfl
theorem binT {a b : Expr} {o : Operator} {pos : Pos} {env : Env} : ∀ whole, isTrue (.BinOp a o b pos) env whole = (do let v ← whole; standAt (Expr.BinOp a o b pos).pos; holding [v] (truthy v)) := fun _ => rfl
theorem negT {a : Expr} {pos : Pos} {env : Env} : ∀ whole, isTrue (.UnaryOp .USub a pos) env whole = (do let v ← whole; standAt (Expr.UnaryOp .USub a pos).pos; holding [v] (truthy v)) := fun _ => rfl
theorem valU {x : Expr} {m : En → Sto → UM U} (he : ∀ whole, isTrue x X.env whole = (do let v ← whole; standAt x.pos; holding [v] (truthy v))) (h : PE X x (EV X T ec W m)) : PE X x (EV X T ec W m) ∧ PT X x (TV X T ec W m) := ⟨h, rt_val h he⟩
theorem constU {u : U} {e : Expr} (h : uConst u e = true) : PE X e (EV X T ec W fun _ S => pureO u S) ∧ PT X e (TV X T ec W fun _ S => pureO u S) := by
  unfold uConst at h
  split at h
  · exact byVal rfl r_non
  · have := of_decide_eq_true h; subst this; exact byVal rfl r_bl
  · have := of_decide_eq_true h; subst this; exact byVal rfl r_int
  · have := of_decide_eq_true h; subst this; exact byVal rfl r_str
  · cases h
theorem gloU (q : XOk I T ec k fn wd C X W) {x : Str} {u : U} (h : gloB I x u = true) : GloOk X.K X.mg x u := by
  unfold gloB at h
  split at h
  · exact q.g.int _ (of_decide_eq_true h)
  · exact q.g.str _ (of_decide_eq_true h)
  · cases h
theorem r_sortKX (q : XOk I T ec k fn wd C X W) (hl : C.lam = true) {e : Expr} {m : En → Sto → UM U} {params : Arguments} {z : Str} {scope : Scope} {j : Nat} {p p1 p2 p3 lpos kpos pos : Pos} (hp : onePar params z = true) (hs : oneScope scope z = true)
    (hg : Gl X "sorted") (hm : X.mg "sorted" = none) (hse : starEach [e] X.env = [(false, eval e X.env)]) (ha : PE X e (EV X T ec W m)) :
    PE X (.Call (.Name "sorted" p) [e] [⟨some "key", .Lambda params (.Subscript (.Name z p1) (.Constant (.int 0) j p2) p3) scope lpos, kpos⟩] pos) (EV X T ec W fun ρ S => bindO (m ρ S) fun u S => optO (uSortK u) S) := by
  obtain ⟨⟨c, P, TB, hcode, hmT, hu⟩, hr, _⟩ := q.lam hl
  obtain ⟨rfl, pp, rfl⟩ := onePar_eq hp
  obtain ⟨h1, h2, h3, h4, h5⟩ := oneScope_ok hs
  refine pe_imp (WyS.pe_sortKey TB hcode hmT hu (hr.mono (Nat.le_succ _)) rfl (fun y hy e => ?_) (fun q' cl pm cv ctv v => bind_one) h1 h2 h3 (fun y hy e => ?_) ?_ h5 hg hm hse ha) sortKey_read
  · rw [h4] at hy
    have : y = (("pair" : Str), NameKind.local) := by simpa using hy
    subst this; cases e
  · rw [h4] at hy
    have : y = (("pair" : Str), NameKind.local) := by simpa using hy
    subst this; cases e
  · rw [h4]; simp
mutual
theorem sE : ∀ e : CE, SE I T ec k fn wd e
  | .var i => fun C X W x q h => by
    cases x with
    | Name x p =>
      obtain ⟨h1, h2⟩ := andB h
      obtain ⟨h3, h4, h5⟩ := q.vis h2
      exact byVal rfl (r_var (q.ix h1) h3 h4 h5)
    | _ => cases h
  | .k u => fun C X W x q h => constU h
  | .glo y u => fun C X W x q h => by
    cases x with
    | Name x p =>
      obtain ⟨h1, h2⟩ := andB h
      obtain ⟨h2, h3⟩ := andB h2
      have := of_decide_eq_true h1
      subst this
      exact byVal rfl (r_glo (q.gl h2).1 (gloU q h3) (q.gl h2).2)
    | _ => cases h
  | .tup es => fun C X W x q h => by
    cases x with
    | Tuple xs kk p => exact valU tupT (r_tup (sEs es C X W xs q h).1)
    | _ => cases h
  | .ofL l => fun C X W x q h => by
    refine valU ?_ (r_ofL (sL l C X W x q h))
    have h : ckL I l C x = true := h
    cases l with
    | disp es => cases x with
      | List xs p => exact lstT
      | _ => cases h
    | comp elt tg it c own => cases x with
      | ListComp _ _ _ _ => exact lcT
      | _ => cases h
  | .emp => fun C X W x q h => by
    cases x with
    | Dict ks vs p => cases ks with
      | nil => cases vs with
        | nil => exact valU dctT r_emp
        | _ => cases h
      | _ => cases h
    | _ => cases h
  | .bin o a b => fun C X W x q h => by
    cases x with
    | BinOp x op y p =>
      obtain ⟨h1, h2⟩ := andB h
      obtain ⟨h2, h3⟩ := andB h2
      have := of_decide_eq_true h1
      subst this
      exact valU binT (r_bin (sE a C X W x q h2).1 (sE b C X W y q h3).1)
    | _ => cases h
  | .neg a => fun C X W x q h => by
    cases x with
    | UnaryOp op x p => cases op with
      | USub => exact valU negT (r_neg (sE a C X W x q h).1)
      | _ => cases h
    | _ => cases h
  | .not a => fun C X W x q h => by
    cases x with
    | UnaryOp op x p => cases op with
      | Not => exact ⟨r_not (sE a C X W x q h).1, rt_not (sE a C X W x q h).2⟩
      | _ => cases h
    | _ => cases h
  | .cmp o a b => fun C X W x q h => by
    unfold ckE at h
    split at h
    · rename_i x op y p
      obtain ⟨h1, h2⟩ := andB h
      obtain ⟨h2, h3⟩ := andB h2
      obtain ⟨h3, h4⟩ := andB h3
      have := of_decide_eq_true h1
      subst this
      exact ⟨r_cmp q.un (bim_of h2) (sE a C X W x q h3).1 (sE b C X W y q h4).1, rt_cmp q.un (bim_of h2) (sE a C X W x q h3).1 (sE b C X W y q h4).1⟩
    · cases h
  | .isN a => fun C X W x q h => by
    unfold ckE at h
    split at h
    · rename_i x kk p p2
      exact ⟨r_isN (sE a C X W x q h).1, rt_isN (sE a C X W x q h).1⟩
    · cases h
  | .notN a => fun C X W x q h => by
    unfold ckE at h
    split at h
    · rename_i x kk p p2
      exact ⟨r_notN (sE a C X W x q h).1, rt_notN (sE a C X W x q h).1⟩
    · cases h
  | .isB b a => fun C X W x q h => by
    unfold ckE at h
    split at h
    · rename_i x c kk p p2
      obtain ⟨h1, h2⟩ := andB h
      have := of_decide_eq_true h1
      subst this
      exact ⟨r_isB (sE a C X W x q h2).1, rt_isB (sE a C X W x q h2).1⟩
    · cases h
  | .notB b a => fun C X W x q h => by
    unfold ckE at h
    split at h
    · rename_i x c kk p p2
      obtain ⟨h1, h2⟩ := andB h
      have := of_decide_eq_true h1
      subst this
      exact ⟨r_notB (sE a C X W x q h2).1, rt_notB (sE a C X W x q h2).1⟩
    · cases h
  | .chain o1 o2 a b c => fun C X W x q h => by
    unfold ckE at h
    split at h
    · rename_i x p1 p2 y z p
      obtain ⟨g1, g2⟩ := andB h
      obtain ⟨h0, h1⟩ := andB g1
      obtain ⟨g3, g4⟩ := andB g2
      obtain ⟨h2, h2'⟩ := andB g3
      obtain ⟨h3, g5⟩ := andB g4
      obtain ⟨h4, h5⟩ := andB g5
      have := of_decide_eq_true h0
      subst this
      have := of_decide_eq_true h1
      subst this
      have hm : lastMarks [copOf o1, copOf o2] [y, z] = false := by
        show behindInMarks (copOf o2) z = false
        exact bim_of h2'
      exact ⟨r_chain q.un (bim_of h2') (bim_of h2) (sE a C X W x q h3).1 (sE b C X W y q h4).1 (sE c C X W z q h5).1 (fun a1 a2 a3 a4 a5 => pe_chain a1 a2 a3 a4 a5 hm), rt_chain q.un hm (sE a C X W x q h3).1 (sE b C X W y q h4).1 (sE c C X W z q h5).1⟩
    · cases h
  | .and es => fun C X W x q h => by
    cases x with
    | BoolOp op xs p => cases op with
      | And =>
        obtain ⟨h1, h2⟩ := andB h
        obtain ⟨_, h3⟩ := (sEs es C X W xs q h2).2 (by simpa using h1)
        exact ⟨(h3 p).1.1, (h3 p).1.2.pt⟩
      | _ => cases h
    | _ => cases h
  | .or es => fun C X W x q h => by
    cases x with
    | BoolOp op xs p => cases op with
      | Or =>
        obtain ⟨h1, h2⟩ := andB h
        obtain ⟨_, h3⟩ := (sEs es C X W xs q h2).2 (by simpa using h1)
        exact ⟨(h3 p).2.1, (h3 p).2.2.pt⟩
      | _ => cases h
    | _ => cases h
  | .ite c a b => fun C X W x q h => by
    cases x with
    | IfExp x y z p =>
      obtain ⟨h1, h2⟩ := andB h
      obtain ⟨h2, h3⟩ := andB h2
      exact ⟨r_ite (sE c C X W x q h1).2 (sE a C X W y q h2).1 (sE b C X W z q h3).1, rt_ite (sE c C X W x q h1).2 (sE a C X W y q h2).2 (sE b C X W z q h3).2⟩
    | _ => cases h
  | .sub a i => fun C X W x q h => by
    cases x with
    | Subscript x y p =>
      obtain ⟨h1, h2⟩ := andB h
      obtain ⟨h2, h3⟩ := andB h2
      exact byVal rfl (r_sub (plainIx_ok h1) (sE a C X W x q h2).1 (sE i C X W y q h3).1)
    | _ => cases h
  | .slc a lo hi => fun C X W x q h => by
    unfold ckE at h
    split at h
    · rename_i x l hh p p2
      obtain ⟨h1, h2⟩ := andB h
      obtain ⟨h2, h3⟩ := andB h2
      exact byVal rfl (r_slc (sE a C X W x q h1).1 ((sO lo).1 C X W l q h2) ((sO hi).1 C X W hh q h3))
    · cases h
  | .rev a => fun C X W x q h => by
    unfold ckE at h
    split at h
    · rename_i x j kk p p2 p3 p4
      obtain ⟨h1, h2⟩ := andB h
      have := of_decide_eq_true h1
      subst this
      exact byVal rfl (r_rev (sE a C X W x q h2).1)
    · cases h
  | .call f es => fun C X W x q h => by
    unfold ckE at h
    split at h
    · rename_i x p xs p2
      split at h
      · rename_i y n hf
        obtain ⟨h1, g2⟩ := andB h
        obtain ⟨h2, g3⟩ := andB g2
        obtain ⟨h3, h4⟩ := andB g3
        have := of_decide_eq_true h1
        subst this
        obtain ⟨ff, fd, ps, F, hm, hk, hb⟩ := q.g.fns f x n hf
        obtain ⟨h5, h6⟩ := sEs es C X W xs q h4
        obtain ⟨h7, _⟩ := h6 (by simpa using h3)
        cases es with
        | nil => cases h3
        | cons e es => cases xs with
          | nil => exact absurd rfl h7
          | cons x1 xs =>
            have h4 : ((nostar x1 && ckE I e C x1) && ckEs I es C xs) = true := h4
            obtain ⟨h8, h9⟩ := andB h4
            have hpl : ∀ (es : CEs) (xs : List Expr), ckEs I es C xs = true → (backTo p2 (starEach xs X.env)).any (·.1) = false := fun es => by
              have : ∀ (n : Nat) (es : CEs) (xs : List Expr), xs.length = n → ckEs I es C xs = true → (backTo p2 (starEach xs X.env)).any (·.1) = false := fun n => by
                induction n with
                | zero => intro es xs hl _; have : xs = [] := List.length_eq_zero_iff.mp hl; subst this; rfl
                | succ n ih =>
                  intro es xs hl hc
                  cases xs with
                  | nil => cases hl
                  | cons x r => cases es with
                    | nil => cases hc
                    | cons e es =>
                      have hc : ((nostar x && ckE I e C x) && ckEs I es C r) = true := hc
                      obtain ⟨c1, c2⟩ := andB hc
                      obtain ⟨c1, c3⟩ := andB c1
                      rw [star_of c1]
                      have := ih es r (by simpa using hl) c2
                      simp only [backTo, List.map_cons, List.any_cons, Bool.false_or] at this ⊢
                      exact this
              exact fun xs hc => this xs.length es xs rfl hc
            exact byVal rfl (r_call F q.room (q.gl h2).1 hm hk hb q.tk (q.gl h2).2 (star_of (andB h8).1) (hpl es xs h9) (q.g.ar f x n hf) h5)
      · cases h
    · cases h
  | .blt f a => fun C X W x q h => by
    unfold ckE at h
    split at h
    · rename_i x p y p2
      obtain ⟨h1, h2⟩ := andB h
      obtain ⟨h2, h3⟩ := andB h2
      obtain ⟨h3, h4⟩ := andB h3
      have := of_decide_eq_true h1
      subst this
      exact byVal rfl (r_blt q.calm (q.blt h2).1 (q.blt h2).2 (star1 h3) (sE a C X W y q h4).1)
    · cases h
  | .isi a t => fun C X W x q h => by
    unfold ckE at h
    split at h
    · rename_i x p y z p3 p2
      obtain ⟨g1, g2⟩ := andB h
      obtain ⟨h0, h1⟩ := andB g1
      obtain ⟨g3, g4⟩ := andB g2
      obtain ⟨h2, h2'⟩ := andB g3
      obtain ⟨h3, h4⟩ := andB g4
      have := of_decide_eq_true h0
      subst this
      have := of_decide_eq_true h1
      subst this
      exact byVal rfl (r_isi (q.blt h2).1 (q.blt h2).2 (q.blt h2').1 (q.blt h2').2 (by rw [star_of h3]; rfl) (sE a C X W y q h4).1)
    · cases h
  | .olen i => fun C X W x q h => by
    unfold ckE at h
    split at h
    · rename_i x p y p2 p3
      obtain ⟨h1, h2⟩ := andB h
      obtain ⟨h0, h1⟩ := andB h1
      obtain ⟨h2, h3⟩ := andB h2
      have := of_decide_eq_true h0
      subst this
      obtain ⟨h4, h5, h6⟩ := q.vis h3
      exact byVal rfl (r_olen (q.blt h1).1 (q.blt h1).2 (q.ix h2) h4 h5 h6)
    · cases h
  | .dget y kvs a d => fun C X W x q h => by
    unfold ckE at h
    split at h
    · rename_i y p m apos z j kk p2 cpos
      obtain ⟨g1, g2⟩ := andB h
      obtain ⟨h0, g3⟩ := andB g1
      obtain ⟨h1, h1'⟩ := andB g3
      obtain ⟨g4, g5⟩ := andB g2
      obtain ⟨h2, h2'⟩ := andB g4
      obtain ⟨h3, g6⟩ := andB g5
      obtain ⟨h4, h5⟩ := andB g6
      have := of_decide_eq_true h0
      subst this
      have := of_decide_eq_true h1
      subst this
      have := of_decide_eq_true h1'
      subst this
      exact byVal rfl (r_dget (q.g.dg _ (of_decide_eq_true h2')) (q.gl h2).1 (q.gl h2).2 h3 (by rw [star_of h4]; rfl) (sE a C X W z q h5).1)
    · cases h
  | .word a => fun C X W x q h => by
    unfold ckE at h
    split at h
    · rename_i x p params body scope lpos pos
      obtain ⟨g1, g2⟩ := andB h
      obtain ⟨h0, g3⟩ := andB g1
      obtain ⟨h1, h1'⟩ := andB g3
      obtain ⟨h2, g4⟩ := andB g2
      obtain ⟨h3, h4⟩ := andB g4
      have := of_decide_eq_true h0
      subst this
      obtain ⟨_, _, hw⟩ := q.lam h1
      exact byVal rfl (hw h2 (by rw [q.sc]; exact LamX.lamS_by h3) (q.gl h1').1 fun A outer s H E f c' hr => (sE a (lamCk C scope) _ _ body (q.lamb hr) h4).1)
    · cases h
  | .sortL a => fun C X W x q h => by
    unfold ckE at h
    split at h
    · rename_i x p y p2
      obtain ⟨h1, h2⟩ := andB h
      obtain ⟨h2, h3⟩ := andB h2
      obtain ⟨h3, h4⟩ := andB h3
      have := of_decide_eq_true h1
      subst this
      exact byVal rfl (r_sortL (q.blt h2).1 (q.blt h2).2 (star1 h3) (sE a C X W y q h4).1)
    · cases h
  | .sortK a => fun C X W x q h => by
    unfold ckE at h
    split at h
    · rename_i x p y kw params z p1 j kk p2 p3 scope lpos kpos p4
      obtain ⟨g1, g2⟩ := andB h
      obtain ⟨h0, g3⟩ := andB g1
      obtain ⟨h1, g4⟩ := andB g3
      obtain ⟨hl, g5⟩ := andB g4
      obtain ⟨hk, hj⟩ := andB g5
      obtain ⟨g6, g7⟩ := andB g2
      obtain ⟨h2, h2'⟩ := andB g6
      obtain ⟨h3, h4⟩ := andB g7
      have := of_decide_eq_true h0
      subst this
      have := of_decide_eq_true hk
      subst this
      have := of_decide_eq_true hj
      subst this
      exact byVal rfl (r_sortKX q hl h2 h2' (q.blt h1).1 (q.blt h1).2 (star1 h3) (sE a C X W y q h4).1)
    · cases h
  | .stop => fun C X W x q h => ⟨⟨fun pins s σ H Q I hw => by
      obtain ⟨ρ, S, μ, J, rel, hw⟩ := hw
      exact hw.elim⟩, ⟨fun pins s σ H Q I hw => by
      obtain ⟨ρ, S, μ, J, rel, hw⟩ := hw
      exact hw.elim⟩⟩
theorem sEs : ∀ es : CEs, SEs I T ec k fn wd es
  | .nil => fun C X W xs q h => by
    cases xs with
    | nil => exact ⟨r_nil, fun h => by cases h⟩
    | cons _ _ => cases h
  | .cons e .nil => fun C X W xs q h => by
    cases xs with
    | nil => cases h
    | cons x r =>
      have h : ((nostar x && ckE I e C x) && ckEs I .nil C r) = true := h
      obtain ⟨h1, h2⟩ := andB h
      obtain ⟨h1, h3⟩ := andB h1
      cases r with
      | cons _ _ => cases h2
      | nil =>
        obtain ⟨k1, k2⟩ := sE e C X W x q h3
        refine ⟨r_cons (star_of h1) k1 r_nil, fun _ => ⟨by simp, fun pos => ⟨⟨r_one k1, rw_and1 k2⟩, r_one k1, rw_or1 k2⟩⟩⟩
  | .cons e (.cons e2 es) => fun C X W xs q h => by
    cases xs with
    | nil => cases h
    | cons x r =>
      have h : ((nostar x && ckE I e C x) && ckEs I (.cons e2 es) C r) = true := h
      obtain ⟨h1, h2⟩ := andB h
      obtain ⟨h1, h3⟩ := andB h1
      obtain ⟨k1, k2⟩ := sE e C X W x q h3
      obtain ⟨k3, k4⟩ := sEs (.cons e2 es) C X W r q h2
      obtain ⟨k5, k6⟩ := k4 rfl
      cases r with
      | nil => exact absurd rfl k5
      | cons y r =>
        refine ⟨r_cons (star_of h1) k1 k3, fun _ => ⟨by simp, fun pos => ?_⟩⟩
        obtain ⟨⟨a1, a2⟩, a3, a4⟩ := k6 pos
        exact ⟨⟨r_and k1 a1, rw_and k2 a2⟩, r_or k1 a3, rw_or k2 a4⟩
theorem sO : ∀ o : CO, SO I T ec k fn wd o
  | .no => by
    refine ⟨fun C X W x q h => ?_, fun C X W xs q h => ?_⟩
    · cases x with
      | none => exact r_no
      | some _ => cases h
    · cases xs with
      | nil => exact ⟨fun pins s σ H Q I hw => by
          obtain ⟨ρ, S, μ, J, rel, hw⟩ := hw
          exact pts_nil.run pins s σ H Q I (fin_pure rel hw rfl)⟩
      | cons _ _ => cases h
  | .so e => by
    refine ⟨fun C X W x q h => ?_, fun C X W xs q h => ?_⟩
    · cases x with
      | none => cases h
      | some x => exact r_so (sE e C X W x q h).1
    · unfold ckT at h
      split at h
      · rename_i x
        exact pts_one (sE e C X W x q h).2
      · cases h
theorem sL : ∀ l : CL, SL I T ec k fn wd l
  | .disp es => fun C X W x q h => by
    cases x with
    | List xs p => exact r_disp (sEs es C X W xs q h).1
    | _ => cases h
  | .comp elt tg it c own => fun C X W x q h => by
    unfold ckL at h
    split at h
    · rename_i x t y ifs scope p
      obtain ⟨h1, h2⟩ := andB h
      obtain ⟨h1, h3⟩ := andB h1
      obtain ⟨h3, h4⟩ := andB h3
      obtain ⟨h2, h5⟩ := andB h2
      obtain ⟨h2, h6⟩ := andB h2
      obtain ⟨h5, h7⟩ := andB h5
      exact r_comp q.calm q.nd (sI it C X W t y q h1) (by rw [q.N, q.sc]; exact blkOk_by h4) (fun s H Cc cl fp => q.blk.tg h2)
        (fun i hi => of_decide_eq_true (List.all_eq_true.mp h6 i hi)) (fun s H Cc cl fp => (sO c).2 _ _ _ ifs q.blk h5) (fun s H Cc cl fp => (sE elt _ _ _ x q.blk h7).1) (fsi_of h3)
    · cases h
theorem sI : ∀ i : CI, SI I T ec k fn wd i
  | .seq a => fun C X W t x q h => ri_seq (sE a C X W x q h).1
  | .range a => fun C X W t x q h => by
    unfold ckI at h
    split at h
    · rename_i x p z p2
      obtain ⟨h1, h2⟩ := andB h
      obtain ⟨h2, h3⟩ := andB h2
      obtain ⟨h3, h4⟩ := andB h3
      have := of_decide_eq_true h1
      subst this
      exact ri_range (q.blt h2).1 (q.blt h2).2 (star1 h3) (sE a C X W z q h4).1
    · cases h
  | .range2 a b => fun C X W t x q h => by cases h
  | .zip a b => fun C X W t x q h => by
    unfold ckI at h
    split at h
    · rename_i es kk tp x p z z2 p2
      obtain ⟨h1, h2⟩ := andB h
      obtain ⟨h2, h3⟩ := andB h2
      obtain ⟨h3, h4⟩ := andB h3
      obtain ⟨h3, h3'⟩ := andB h3
      obtain ⟨h4, h5⟩ := andB h4
      have := of_decide_eq_true h1
      subst this
      exact ri_zip (q.blt h2).1 (q.blt h2).2 (star_of h3) (star1 h3') (sE a C X W z q h4).1 (sE b C X W z2 q h5).1
    · cases h
end
end
end Wy
end
section
set_option maxRecDepth 100000
set_option maxHeartbeats 4000000
namespace Wy
open PySem PySem.Spec PyProof.Rows L2
/-! ### the tongue against the text: statements -/
section
variable (I : Info)
def ckP (a : CE) (C : Ck) (x : Expr) : Bool := match a with
  | .ofL l => ckL I l C x
  | e => ckE I e C x
/-- a comprehension put into a plain name at once -/
def swC (C : Ck) (x : Str) (p : Pos) : Expr → Bool
  | .ListComp _ _ scope vpos => (decide (C.sc.names.lookup x = some .local) && decide (p.line = vpos.line)) && !(scope.names.any fun (n, k) => n == x && (k == NameKind.local || k == NameKind.cell))
  | _ => false
def isConst : Expr → Bool
  | .Constant .. => true
  | _ => false
def fnK (C : Ck) : Bool := match C.sc.kind with | .function => true | _ => false
mutual
def ckS : CS → Ck → Stmt → Bool
  | .asg i e, C, s => (match s with | .Assign [.Name x p] v _ => (ixB C i x && locB C x) && (match e with | .ofL l => ckL I l C v && (nocomp v || (fnK C && swC C x p v)) | e => ckE I e C v && nocomp v) | _ => false)
  | .own i l, C, s => (match s with | .Assign [.Name x p] v _ => (ixB C i x && locB C x) && (ckL I l C v && (nocomp v || (fnK C && swC C x p v))) | _ => false)
  | .alc i l, C, s => (match s with | .Assign [.Name x p] v _ => (ixB C i x && locB C x) && (ckL I l C v && (nocomp v || (fnK C && swC C x p v))) | _ => false)
  | .parO i j a b, C, s => (match s with | .Assign [.Tuple [.Name x px, .Name y py] _ _] (.Tuple [u, v] _ _) _ => ((ixB C i x && locB C x) && (ixB C j y && locB C y)) && (((nostar u && nostar v) && (ckP I a C u && ckP I b C v)) && (((fnK C && (decide (C.sc.names.lookup x = some .local) && decide (C.sc.names.lookup y = some .local))) && ((decide (i ≠ j) && (decide (x ≠ y) && decide (py.line = px.line))) && (!(foldedForSure 8 u && foldedForSure 8 v) && !(constantsAlone 8 u && constantsAlone 8 v)))) || (decide (C.sc.names.lookup x ≠ some .local) || decide (C.sc.names.lookup y ≠ some .local)))) | _ => false)
  | .unp tg e, C, s => (match s with | .Assign [t] v _ => (tgB C tg t && nostar t) && ((nocomp v && notup v) && ckE I e C v) | _ => false)
  | .frz _, _, _ => false
  | .sidx a i e, C, s => (match s with | .Assign [.Subscript x y _] v _ => (isConst y && nocomp v) && (ckE I e C v && (ckE I a C x && ckE I i C y)) | _ => false)
  | .aug i e, C, s => (match s with | .AugAssign (.Name x _) .Add v _ => (ixB C i x && locB C x) && ckE I e C v | _ => false)
  | .app i e, C, s => (match s with | .Expr (.Call (.Attribute (.Name x _) m apos) [v] [] cpos) _ => (ixB C i x && visB C x) && ((decide (m = "append") && (apos.endLine == cpos.line)) && (nostar v && ckE I e C v)) | _ => false)
  | .ext i e, C, s => (match s with | .Expr (.Call (.Attribute (.Name x _) m apos) [v] [] cpos) _ => (ixB C i x && visB C x) && ((decide (m = "extend") && (apos.endLine == cpos.line)) && (nostar v && ckE I e C v)) | _ => false)
  | .popU tg j, C, s => (match s with | .Assign [t] (.Call (.Attribute (.Name x _) m apos) [] [] cpos) _ => (ixB C j x && visB C x) && ((decide (m = "pop") && (apos.endLine == cpos.line)) && (tgB C tg t && nostar t)) | _ => false)
  | .ite c a b, C, s => (match s with | .If x b1 b2 _ => ckE I c C x && (ckB a C b1 && ckB b C b2) | _ => false)
  | .whl c b, C, s => (match s with | .While x b1 [] _ => ckE I c C x && ckB b C b1 | _ => false)
  | .for_ tg it b, C, s => (match s with | .For t y b1 [] _ => (tgB C tg t && noset y) && (ckI I it C t y && ckB b C b1) | _ => false)
  | .ret e, C, s => (match s with | .Return (some v) _ => ckE I e C v | _ => false)
  | .retA l, C, s => (match s with | .Return (some v) _ => ckL I l C v | _ => false)
  | .raise c, C, s => (match s with | .Raise (some (.Call (.Name x _) [] [] _)) none _ => decide (x = c) && (glB C x && decide (c ∈ I.exc)) | _ => false)
  | .exp e, C, s => (match s with | .Expr v _ => nocomp v && ckE I e C v | _ => false)
  | .brk, _, s => (match s with | .Break _ => true | _ => false)
  | .cnt, _, s => (match s with | .Continue _ => true | _ => false)
  | .pass, _, s => (match s with | .Pass _ => true | _ => false)
def ckB : CB → Ck → List Stmt → Bool
  | .nil, _, xs => (match xs with | [] => true | _ => false)
  | .cons s b, C, xs => (match s with
    | .frz _ => ckB b C xs
    | s => (match xs with | x :: r => ckS s C x && ckB b C r | [] => false))
end
end
structure XSOk (I : Info) (T : List (Addr × Str)) (ec : Str → Addr) (k : Nat) (fn : Nat → List U → Sto → UM U) (wd : UM U → UM U) (C : Ck) (X : Cx) (W : WX) : Prop where
  x : XOk I T ec k fn wd C X W
  own : PassesOwn (model X.prog X.w) X.A X.env X.xe
section
variable {I : Info} {T : List (Addr × Str)} {ec : Str → Addr} {k : Nat} {fn : Nat → List U → Sto → UM U} {wd : UM U → UM U} {C : Ck} {X : Cx} {W : WX} {B : Bs}
theorem notB {b : Bool} (h : (!b) = true) : b = false := by cases b <;> first | rfl | cases h
theorem fnK_ok (q : XOk I T ec k fn wd C X W) (h : fnK C = true) : X.env.scope.kind = .function := by
  rw [q.sc]
  unfold fnK at h
  split at h
  · assumption
  · cases h
theorem swC_ok (q : XOk I T ec k fn wd C X W) {x : Str} {p pos : Pos} {v : Expr} (hf : fnK C = true) (h : swC C x p v = true) : swapsWith v (some (.Name x p)) pos.line X.env = pure true := by
  have hk := fnK_ok q hf
  cases v with
  | ListComp elt gens scope vpos =>
    obtain ⟨h1, h2⟩ := andB h
    obtain ⟨h3, h4⟩ := andB h1
    have e1 : X.env.kindOf x = some .local := by
      show X.env.scope.names.lookup x = _
      rw [q.sc]; exact of_decide_eq_true h3
    have e2 := of_decide_eq_true h4
    have hbk : X.env.blockKind = .function := by unfold Env.blockKind; rw [hk]; rfl
    show pure (X.env.blockKind == ScopeKind.function && X.env.kindOf x == some NameKind.local && p.line == vpos.line && !(scope.names.any fun y => match y with | (n, k) => n == x && (k == NameKind.local || k == NameKind.cell))) = pure true
    rw [hbk, e1, e2]
    have : (!(scope.names.any fun y => match y with | (n, k) => n == x && (k == NameKind.local || k == NameKind.cell))) = true := h2
    rw [this]
    simp
  | _ => cases h
theorem sP (a : CE) {x : Expr} (q : XOk I T ec k fn wd C X W) (h : ckP I a C x = true) : PE X x (TX X.K T ec W (RP X.K) (evP fn wd a)) := by
  cases a with
  | ofL l => exact rp_l (sL l C X W x q h)
  | _ => exact rp_v (sE _ C X W x q h).1
/-- from a fresh list, however it is put -/
theorem putL {l : CL} {i : Nat} {x : Str} {p pos : Pos} {v : Expr} {tsm : TS} (q : XOk I T ec k fn wd C X W) (hi : ixB C i x = true) (hl : locB C x = true) (hc : ckL I l C v = true) (hn : (nocomp v || (fnK C && swC C x p v)) = true)
    (hm : ∀ D σ H, tsm D σ H → TX X.K T ec W (RF X.K) (evL fn wd l) σ H (fun v H1 => D.nx (σ.set i (some v)) H1)) : PS X (.Assign [.Name x p] v pos) tsm := by
  obtain ⟨g1, g2⟩ := q.loc hl
  rcases Bool.or_eq_true_iff.mp hn with h | h
  · exact ps_imp (ps_set q.nd (q.ix hi) g1 (sL l C X W v q hc) (swaps_of h) g2) fun D σ H z => hm D σ H z
  · obtain ⟨hf, h9⟩ := andB h
    have hsw := swC_ok (pos := pos) q hf h9
    cases l with
    | disp es => cases v with
      | List _ _ => cases h9
      | _ => cases hc
    | comp elt tg it c own =>
      unfold ckL at hc
      split at hc
      · rename_i y t z ifs scope vp
        obtain ⟨a1, a2⟩ := andB hc
        obtain ⟨a3, a4⟩ := andB a1
        obtain ⟨a5, a6⟩ := andB a4
        obtain ⟨a7, a8⟩ := andB a2
        obtain ⟨a9, b1⟩ := andB a7
        obtain ⟨b2, b3⟩ := andB a8
        obtain ⟨h3, h3'⟩ := andB h9
        obtain ⟨h4, h4'⟩ := andB h3
        have e1 : X.env.scope.names.lookup x = some .local := by rw [q.sc]; exact of_decide_eq_true h4
        exact ps_lcm q.calm q.nd (q.ix hi) e1 hsw (sI it C X W t z q a3) (by rw [q.N, q.sc]; exact blkOk_by a6) (fun s H Cc cl fp => q.blk.tg a9)
          (fun i hi => of_decide_eq_true (List.all_eq_true.mp b1 i hi)) (fun s H Cc cl fp => (sO c).2 _ _ _ ifs q.blk b2) (fun s H Cc cl fp => (sE elt _ _ _ y q.blk b3).1) (fsi_of a5) hm
      · cases hc
theorem seq_frz {b : CB} {i : Nat} {xs : List Stmt} (h : PSs X xs (SV X T ec W B (exB fn wd b))) : PSs X xs (SV X T ec W B (exB fn wd (.cons (.frz i) b))) := rs_frz h
mutual
theorem sS : ∀ (s : CS) (C : Ck) (X : Cx) (W : WX) (B : Bs) (x : Stmt), XSOk I T ec k fn wd C X W → ckS I s C x = true → PS X x (SV X T ec W B (exS fn wd s))
  | .asg i e, C, X, W, B, x, q, h => by
    unfold ckS at h
    split at h
    · rename_i x p v pos
      obtain ⟨h1, h2⟩ := andB h
      obtain ⟨h3, h4⟩ := andB h1
      obtain ⟨g1, g2⟩ := q.x.loc h4
      split at h2
      · rename_i l
        obtain ⟨h5, h6⟩ := andB h2
        exact putL q.x h3 h4 h5 h6 fun D σ H z => asgL_fin z
      · obtain ⟨h5, h6⟩ := andB h2
        exact rs_asg q.x.nd (q.x.ix h3) g1 (swaps_of h6) g2 (sE e C X W v q.x h5).1
    · cases h
  | .own i l, C, X, W, B, x, q, h => by
    unfold ckS at h
    split at h
    · rename_i x p v pos
      obtain ⟨h1, h2⟩ := andB h
      obtain ⟨h3, h4⟩ := andB h1
      obtain ⟨h5, h6⟩ := andB h2
      exact putL q.x h3 h4 h5 h6 fun D σ H z => own_fin z
    · cases h
  | .alc i l, C, X, W, B, x, q, h => by
    unfold ckS at h
    split at h
    · rename_i x p v pos
      obtain ⟨h1, h2⟩ := andB h
      obtain ⟨h3, h4⟩ := andB h1
      obtain ⟨h5, h6⟩ := andB h2
      exact putL q.x h3 h4 h5 h6 fun D σ H z => alc_fin z
    · cases h
  | .parO i j a b, C, X, W, B, x, q, h => by
    unfold ckS at h
    split at h
    · rename_i x px y py kt pt u v k2 pt2 pos
      obtain ⟨h1, h2⟩ := andB h
      obtain ⟨h3, h4⟩ := andB h1
      obtain ⟨x1, x2⟩ := andB h3
      obtain ⟨y1, y2⟩ := andB h4
      obtain ⟨h5, h6⟩ := andB h2
      obtain ⟨h7, h8⟩ := andB h5
      obtain ⟨u1, v1⟩ := andB h7
      obtain ⟨u2, v2⟩ := andB h8
      rcases Bool.or_eq_true_iff.mp h6 with h9 | h9
      · obtain ⟨c1, c2⟩ := andB h9
        obtain ⟨c3, c4⟩ := andB c1
        obtain ⟨c5, c6⟩ := andB c4
        obtain ⟨c7, c8⟩ := andB c2
        obtain ⟨c9, d1⟩ := andB c7
        obtain ⟨d2, d3⟩ := andB d1
        obtain ⟨d4, d5⟩ := andB c8
        have ex : X.env.scope.names.lookup x = some .local := by rw [q.x.sc]; exact of_decide_eq_true c5
        have ey : X.env.scope.names.lookup y = some .local := by rw [q.x.sc]; exact of_decide_eq_true c6
        exact rs_par q.x.calm q.x.nd (q.x.ix x1) (q.x.ix y1) (of_decide_eq_true c9) ex ey (sw_pair (fnK_ok q.x c3) ex ey (of_decide_eq_true d2) (of_decide_eq_true d3) u1 v1 (notB d4) (notB d5)) (star_of u1) (star1 v1) (sP a q.x u2) (sP b q.x v2)
      · have e : X.env.scope.names.lookup x ≠ some .local ∨ X.env.scope.names.lookup y ≠ some .local := by
          rw [q.x.sc]
          rcases Bool.or_eq_true_iff.mp h9 with z | z
          · exact .inl (of_decide_eq_true z)
          · exact .inr (of_decide_eq_true z)
        obtain ⟨g1, g2⟩ := q.x.loc x2
        obtain ⟨g3, g4⟩ := q.x.loc y2
        exact rs_par2 q.x.calm q.x.nd (q.x.ix x1) (q.x.ix y1) g1 g3 g2 g4 rfl rfl (sw_pair_none e) (star_of u1) (star1 v1) (sP a q.x u2) (sP b q.x v2)
    · cases h
  | .unp tg e, C, X, W, B, x, q, h => by
    unfold ckS at h
    split at h
    · rename_i t v pos
      obtain ⟨h1, h2⟩ := andB h
      obtain ⟨h3, h4⟩ := andB h1
      obtain ⟨h5, h6⟩ := andB h2
      obtain ⟨h7, h8⟩ := andB h5
      exact rs_unp (q.x.tg h3) (swapsSole_of h7) (swst_of h8) (by rw [asg_of h4]; rfl) (sE e C X W v q.x h6).1
    · cases h
  | .frz i, C, X, W, B, x, q, h => by cases h
  | .sidx a i e, C, X, W, B, x, q, h => by
    unfold ckS at h
    split at h
    · rename_i x y tp v pos
      obtain ⟨h1, h2⟩ := andB h
      obtain ⟨h3, h4⟩ := andB h1
      obtain ⟨h5, h6⟩ := andB h2
      obtain ⟨h7, h8⟩ := andB h6
      cases y with
      | Constant _ _ _ => exact rs_sidx (sE e C X W v q.x h5).1 (sE a C X W x q.x h7).1 (sE i C X W _ q.x h8).1 (fun v => rfl) (swapsSole_of h4) swst_sub
      | _ => cases h3
    · cases h
  | .aug i e, C, X, W, B, x, q, h => by
    unfold ckS at h
    split at h
    · rename_i x p v pos
      obtain ⟨h1, h2⟩ := andB h
      obtain ⟨h3, h4⟩ := andB h1
      obtain ⟨g1, g2⟩ := q.x.loc h4
      exact rs_aug q.x.nd (q.x.ix h3) g1 g2 (sE e C X W v q.x h2).1
    · cases h
  | .app i e, C, X, W, B, x, q, h => by
    unfold ckS at h
    split at h
    · rename_i x p m apos v cpos pos
      obtain ⟨h1, h2⟩ := andB h
      obtain ⟨h3, h4⟩ := andB h1
      obtain ⟨h5, h6⟩ := andB h2
      obtain ⟨h7, h8⟩ := andB h5
      obtain ⟨h9, g1⟩ := andB h6
      have := of_decide_eq_true h7
      subst this
      obtain ⟨a1, a2, a3⟩ := q.x.vis h4
      exact rs_app (q.x.ix h3) a1 a2 a3 h8 (star1 h9) (sE e C X W v q.x g1).1
    · cases h
  | .ext i e, C, X, W, B, x, q, h => by
    unfold ckS at h
    split at h
    · rename_i x p m apos v cpos pos
      obtain ⟨h1, h2⟩ := andB h
      obtain ⟨h3, h4⟩ := andB h1
      obtain ⟨h5, h6⟩ := andB h2
      obtain ⟨h7, h8⟩ := andB h5
      obtain ⟨h9, g1⟩ := andB h6
      have := of_decide_eq_true h7
      subst this
      obtain ⟨a1, a2, a3⟩ := q.x.vis h4
      exact rs_ext (q.x.ix h3) a1 a2 a3 h8 (star1 h9) (sE e C X W v q.x g1).1
    · cases h
  | .popU tg j, C, X, W, B, x, q, h => by
    unfold ckS at h
    split at h
    · rename_i t x p m apos cpos pos
      obtain ⟨h1, h2⟩ := andB h
      obtain ⟨h3, h4⟩ := andB h1
      obtain ⟨h5, h6⟩ := andB h2
      obtain ⟨h7, h8⟩ := andB h5
      obtain ⟨h9, g1⟩ := andB h6
      have := of_decide_eq_true h7
      subst this
      obtain ⟨a1, a2, a3⟩ := q.x.vis h4
      exact rs_pop (q.x.ix h3) a1 a2 a3 h8 (q.x.tg h9) rfl (swst_of rfl) (by rw [asg_of g1]; rfl)
    · cases h
  | .ite c a b, C, X, W, B, x, q, h => by
    unfold ckS at h
    split at h
    · rename_i x b1 b2 pos
      obtain ⟨h1, h2⟩ := andB h
      obtain ⟨h3, h4⟩ := andB h2
      exact rs_ite (sE c C X W x q.x h1).2 (sB a C X W B b1 q h3) (sB b C X W B b2 q h4)
    · cases h
  | .whl c b, C, X, W, B, x, q, h => by
    unfold ckS at h
    split at h
    · rename_i x b1 pos
      obtain ⟨h1, h2⟩ := andB h
      exact rs_whl q.own (sE c C X W x q.x h1).2 (sB b C X W B b1 q h2)
    · cases h
  | .for_ tg it b, C, X, W, B, x, q, h => by
    unfold ckS at h
    split at h
    · rename_i t y b1 pos
      obtain ⟨h1, h2⟩ := andB h
      obtain ⟨h3, h4⟩ := andB h1
      obtain ⟨h5, h6⟩ := andB h2
      exact rs_for q.own q.x.calm (sI it C X W t y q.x h5) (q.x.tg h3) (sB b C X W B b1 q h6) (fsi_of h4)
    · cases h
  | .ret e, C, X, W, B, x, q, h => by
    unfold ckS at h
    split at h
    · rename_i v pos
      exact rs_ret (sE e C X W v q.x h).1
    · cases h
  | .retA l, C, X, W, B, x, q, h => by
    unfold ckS at h
    split at h
    · rename_i v pos
      exact rs_retA (sL l C X W v q.x h)
    · cases h
  | .raise c, C, X, W, B, x, q, h => by
    unfold ckS at h
    split at h
    · rename_i x p cp pos
      obtain ⟨h1, h2⟩ := andB h
      obtain ⟨h3, h4⟩ := andB h2
      have := of_decide_eq_true h1
      subst this
      exact rs_raise q.x.calm q.x.tk (q.x.g.exc _ (of_decide_eq_true h4)) (q.x.gl h3).1 (q.x.gl h3).2
    · cases h
  | .exp e, C, X, W, B, x, q, h => by
    unfold ckS at h
    split at h
    · rename_i v pos
      obtain ⟨h1, h2⟩ := andB h
      exact rs_exp (swaps_of h1) (sE e C X W v q.x h2).1
    · cases h
  | .brk, C, X, W, B, x, q, h => by
    unfold ckS at h
    split at h
    · exact rs_brk
    · cases h
  | .cnt, C, X, W, B, x, q, h => by
    unfold ckS at h
    split at h
    · exact rs_cnt
    · cases h
  | .pass, C, X, W, B, x, q, h => by
    unfold ckS at h
    split at h
    · exact rs_pass
    · cases h
theorem sB : ∀ (b : CB) (C : Ck) (X : Cx) (W : WX) (B : Bs) (xs : List Stmt), XSOk I T ec k fn wd C X W → ckB I b C xs = true → PSs X xs (SV X T ec W B (exB fn wd b))
  | .nil, C, X, W, B, xs, q, h => by
    cases xs with
    | nil => exact rs_nil
    | cons _ _ => cases h
  | .cons s b, C, X, W, B, xs, q, h => by
    unfold ckB at h
    split at h
    · rename_i i
      exact seq_frz (sB b C X W B xs q h)
    · split at h
      · rename_i x r
        obtain ⟨h1, h2⟩ := andB h
        exact rs_cons (sS s C X W B x q h1) (sB b C X W B r q h2)
      · cases h
end
end
end Wy
end
section
set_option maxRecDepth 100000
set_option maxHeartbeats 4000000
namespace Wy
open PySem PySem.Spec PyProof.Rows L2
/-! ### a def keeps its promise -/
section
variable {K : PySem.W.Frag} {T : List (Addr × Str)} {μ : List Addr} {J H : Hp} {S : Sto}
theorem slots_get : ∀ {us : List U} {vs : List V} {n m i : Nat} {s : Slot} {o : Option V}, RUs K μ J us vs → (us.map Slot.v ++ List.replicate n .nil)[i]? = some s → (vs.map some ++ List.replicate m none)[i]? = some o → RSl K μ J H s o
  | _, _, n, m, i, s, o, .nil, e1, e2 => by
    simp only [List.map_nil, List.nil_append] at e1
    have := List.mem_of_getElem? e1
    have := List.eq_of_mem_replicate this
    subst this
    trivial
  | _, _, n, m, 0, s, o, .cons h r, e1, e2 => by
    simp at e1 e2
    subst e1 e2
    exact ⟨_, rfl, h⟩
  | _, _, n, m, i + 1, s, o, .cons h r, e1, e2 => slots_get (n := n) (m := m) (i := i) r (by simpa using e1) (by simpa using e2)
theorem Rel.enter {N : List Str} {us : List U} {vs : List V} (rel : Rel K T μ J [] S [] H) (ru : RUs K μ J us vs) (hl : us.length ≤ N.length) : Rel K T μ J (us.map Slot.v ++ List.replicate (N.length - us.length) .nil) S (L2.start N vs) H := by
  have hlen := ru.length
  refine ⟨by unfold L2.start; simp; omega, rel.jh, rel.ml, rel.mn, rel.st, fun i s o e1 e2 => slots_get ru e1 e2, fun i j us' ws p e1 e2 _ _ => ?_, rel.tab, rel.jt⟩
  exfalso
  have key : ∀ (us : List U) (n i : Nat) (ws : List U), (us.map Slot.v ++ List.replicate n .nil)[i]? ≠ some (.own ws) := fun us n => by
    induction us with
    | nil =>
      intro i ws e
      simp only [List.map_nil, List.nil_append] at e
      have := List.eq_of_mem_replicate (List.mem_of_getElem? e)
      cases this
    | cons u us ih =>
      intro i ws e
      cases i with
      | zero => simp at e
      | succ i => exact ih i ws (by simpa using e)
  exact key us _ i us' e1
end
def endU (r : SM) : UM U := match r with
    | some (.ret u, S') => some (.ok u, S')
    | some (.nx _, S') => some (.ok .non, S')
    | some (.err c, S') => some (.err c, S')
    | _ => none
theorem end_fin {K : PySem.W.Frag} {T : List (Addr × Str)} {ec : Str → Addr} {μ : List Addr} {J H : Hp} {E : XK} {Q : VK} : ∀ {r : SM}, Fin' K T ec (fun cls d _ H => E cls d H) (RV K) μ J [] [] H (endU r) Q → FinS K T ec (fun cls d _ H => E cls d H) ⟨μ, J, H⟩ μ J r { nx := fun _ H' => Q .non H', rt := Q }
  | none, h => h.elim
  | some (.nx ρ', S'), h => fun σ' μ' J' H' r _ _ => h .non μ' J' H' r.st r.rel.forget .non
  | some (.ret u, S'), h => fun v μ' J' H' r st ru => h v μ' J' H' st r ru
  | some (.err c, S'), h => fun σ' μ' J' H' r st => h μ' J' H' st r
  | some (.brk _, _), h => h.elim
  | some (.cnt _, _), h => h.elim
/-- what is asked of a def in which lambdas are made -/
def TabAt (base : Heap) (mg : Str → Option Value) (T : List (Addr × Str)) (x : Str) (cdv : Value) : Prop := ∃ c P, cdv = .ref c ∧ LamX.TabB base mg c P ∧ (P, x ++ ".<locals>." ++ "<lambda>") ∈ T ∧ ∀ p ∈ T, p.1 = P → p.2 = x ++ ".<locals>." ++ "<lambda>"
theorem fn_okU {I : Info} {T : List (Addr × Str)} {ec : Str → Addr} {k : Nat} {fn : Nat → List U → Sto → UM U} {wd : UM U → UM U} {P : Program} {w : World} {K : PySem.W.Frag} {mg : Str → Option Value} {base : Heap} {x : Str} {params : Arguments} {body : List Stmt} {scope : Scope} {f : Addr} {fd : FuncData} {d : FDef} {lam : Bool}
    (F : FunD K x x params body scope [] [] f fd) (hS : FnScope d.N d.ps scope) (hck : ckB I d.body ⟨d.N, scope, fun _ => true, lam⟩ body = true) (hg : GOk I P w K mg base T ec k fn)
    (ht : lam = true → ∀ (oc : Value) (od : Option Addr) (dV kV doc pm : Value) (an : Option Addr) (cdv ct : Value) (osl : Array (Option Value)), K.lookup f = some ⟨oc, od, .func (PySem.W.fnOf x x params body scope dV kV doc pm an cdv ct), osl⟩ → TabAt base mg T x cdv)
    (hw : lam = true → ∀ (X : Cx) (W : WX), X.prog = P → X.w = w → X.K = K → X.mg = mg → X.base = base → LamOk T X → Room (k + 2) X.A → WordOk I T ec wd X W k) :
    FnOk P w K mg base (L2.CX P w) (k + 3) f fd d.ps (spU K T ec d.ps.length (runBody fn wd d)) := by
  obtain ⟨oc, od, dV, kV, doc, pm, an, cdv, ct, osl, rfl, lk, hcd, _, _⟩ := F.ex
  refine fn_of (k := k + 2) lk hcd hS (fun vs H Q E h => h.1) fun A outer s H vs Q E hr hsp => ?_
  obtain ⟨hl, us, S, μ, J, rel, ru, h⟩ := hsp
  have hN : d.ps.length ≤ d.N.length := by
    have := congrArg List.length hS.pre
    simp at this
    omega
  have hlen := ru.length
  have hus : us.length = d.ps.length := by omega
  let X := cxOf (L2.CX P w) P w K mg base d.N x scope f cdv A outer s H E
  let W : WX := fun cls d _ H => E cls d H
  have lamOk : lam = true → LamOk T X := fun e => by
    obtain ⟨c, Pt, e1, e2, e3, e4⟩ := ht e _ _ _ _ _ _ _ _ _ _ lk
    exact ⟨c, Pt, e2, e1, e3, e4⟩
  have q : XSOk I T ec k fn wd ⟨d.N, scope, fun _ => true, lam⟩ X W := {
    x := {
      N := rfl, sc := rfl, fx := rfl, calm := rfl, nd := hS.nd,
      un := by have := hr.un; show (A.deeper (envOfC x scope s.heap.objs.size f cdv)).units + 64 < cLine; omega
      tk := takes_of (X := X) rfl rfl rfl rfl
      g := hg
      room := hr.mono (by omega)
      lam := fun e => ⟨lamOk e, hr, hw e X W rfl rfl rfl rfl rfl (lamOk e) hr⟩ }
    own := passes_of (X := X) rfl }
  refine ⟨SV X T ec W ⟨μ, J, H⟩ (exB fn wd d.body), sB d.body _ X W ⟨μ, J, H⟩ body q hck, ?_⟩
  refine ⟨us.map Slot.v ++ List.replicate (d.N.length - us.length) Slot.nil, S, μ, J, ⟨(rel.enter (N := d.N) ru (by omega) : Rel K T μ J _ S _ H), Step.refl _ _ _, fun i us' p e1 _ => ?_⟩, ?_⟩
  · exfalso
    have key : ∀ (us : List U) (n i : Nat) (ws : List U), (us.map Slot.v ++ List.replicate n .nil)[i]? ≠ some (.own ws) := fun us n => by
      induction us with
      | nil =>
        intro i ws e
        simp only [List.map_nil, List.nil_append] at e
        have := List.eq_of_mem_replicate (List.mem_of_getElem? e)
        cases this
      | cons u us ih =>
        intro i ws e
        cases i with
        | zero => simp at e
        | succ i => exact ih i ws (by simpa using e)
    exact key us _ i us' e1
  · unfold runBody at h
    rw [if_pos hus] at h
    exact end_fin h
end Wy
end
section
set_option maxRecDepth 100000
set_option maxHeartbeats 4000000
namespace Wy
open PySem PySem.Spec PyProof.Rows L2
/-! ### the def that calls a lambda and tells its error by a word -/
section
variable {X : Cx}
def rCntF (K : PySem.W.Frag) : V → List V → Hp → VK → Prop := fun x xs H Q => ∃ (a : Addr) (ys : List V) (y : V), x = V.ref a ∧ xs = [y] ∧ SqL K H a ys ∧ flatV y = true ∧ ys.all flatV = true ∧ Q (.int (ys.countP fun z => eqV z y : Nat)) H
theorem count_flat {y : V} : ∀ {ys : List V} {its : List Value}, Vals ys its → ys.all flatV = true → its.countP (eqU y) = ys.countP fun z => eqV z y
  | _, _, .nil, _ => rfl
  | _, _, .cons r t, f => by
    rw [List.all_cons, Bool.and_eq_true] at f
    rw [List.countP_cons, List.countP_cons, count_flat t f.2, eqU_of r f.1]
theorem mt_countF : MtR X "list.count" (rCntF X.K) := by
  intro pins s σ H x xs v us Q I rx rxs h
  obtain ⟨p, ys, y, rfl, rfl, hs, fy, fys, q⟩ := h
  cases rx
  obtain ⟨u, rfl, ru⟩ := rxs.one
  obtain ⟨its, rv, ⟨⟨cls, dd, data, sl⟩, n, ho, hc, hdn, hd⟩, hlen⟩ := I.list hs
  simp only at hc hd
  subst hc hd
  refine call_meets PySem.F.slot_list_count ⟨_, ho, rfl⟩ PySem.F.entry_list_count (PySem.F.args_list_count_2 _ _)
    (SeqAt.list_countAt p its.toArray n dd sl u (eqU y)) ⟨ho, fun z hz => mem_eqAt ru fy rv fys z (by simpa using hz), ?_⟩
  refine ⟨.int (ys.countP fun z => eqV z y : Nat), H, I.tok _, ⟨s.toks, ?_⟩, q⟩
  rw [← count_flat (y := y) rv fys]
end
/-- what is known of the classes that the words tell -/
structure WordCls (K : PySem.W.Frag) (mg : Str → Option Value) (ec : Str → Addr) : Prop where
  why : mg "WhyError" = some (.ref (ec "WhyError"))
  m1 : mg "NoEdit" = some (.ref (ec "NoEdit"))
  m2 : mg "NoPath" = some (.ref (ec "NoPath"))
  m3 : mg "NoState" = some (.ref (ec "NoState"))
  m4 : mg "NoValue" = some (.ref (ec "NoValue"))
  isi : mg "isinstance" = none
def wIx (c : Str) : Nat := if c = "NoEdit" then 0 else if c = "NoPath" then 1 else if c = "NoState" then 2 else 3
def wWd : Nat → Str
  | 0 => "edit" | 1 => "path" | 2 => "state" | _ => "value"
structure WordE (K : PySem.W.Frag) (ec : Str → Addr) (j : Nat) : Prop where
  e : ExcC K (ec (wNm j))
  x : PySem.W.exmOne K (.ref (ec (wNm j))) (.ref (ec "WhyError")) = some true
  k : ∀ i, i < 4 → PySem.W.kitOne K (.ref (ec (wNm j))) (.ref (ec (wNm i))) = some (decide (i = j))
/-- told: the lambda's value is left, its error told by a word -/
def TTw (K : PySem.W.Frag) (ec : Str → Addr) : (XK → Hp → VK → Prop) → Hp → VK → Prop := fun tl H Q =>
  tl (fun cls d H' => d = none ∧ ∃ j, j < 4 ∧ WordE K ec j ∧ cls = .ref (ec (wNm j)) ∧ ∀ H'', (∀ b o, H' b = some o → H'' b = some o) → Q (.str (wWd j)) H'') H (fun _ H' => Q (.str "let") H')
section
variable {X : Cx} {ec : Str → Addr} {a : Addr} {oe : Obj} {pn : List (Addr × Obj)} {j : Nat}
theorem pe_isE {p1 p2 p3 p4 : Pos} {i : Nat} (hj : WordE X.K ec j) (hz : Zc (.ref (ec (wNm j))) none oe) (hf : ∃ vs, oe.data = .fields vs) (hN : X.N[1]? = some ("error" : Str)) (hv : Vis X.env.scope "error") (hi : i < 4) (hg : Gl X "isinstance") (hm : X.mg "isinstance" = none) (hgc : Gl X (wNm i)) (hmc : X.mg (wNm i) = some (.ref (ec (wNm i)))) (hdb : (wNm i == ("__debug__" : Str)) = false) :
    PE (X.suite a ((a, oe) :: pn)) (.Call (.Name "isinstance" p1) [.Name "error" p2, .Name (wNm i) p3] [] p4) (fun σ H Q => σ[1]? = some (some (.ref a)) ∧ Q (.bl (decide (i = j))) H) := by
  have he : PE (X.suite a ((a, oe) :: pn)) (.Name "error" p2) (tVar 1) := pe_var (X := X.suite a ((a, oe) :: pn)) hN hv (by decide) (by decide)
  have hc : PE (X.suite a ((a, oe) :: pn)) (.Name (wNm i) p3) (tC (.ref (ec (wNm i)))) := pe_glob (X := X.suite a ((a, oe) :: pn)) hgc hmc rfl hdb
  refine pe_imp (pe_callB (X := X.suite a ((a, oe) :: pn)) (call_isE (X := X) hj.e hz hf) hg hm (by decide +kernel) (pa_cons he (pa_cons hc pa_nil)) (by decide) (by decide) rfl rfl) fun σ H Q ⟨hs, h⟩ => ?_
  refine ⟨.ref a, hs, ?_⟩
  exact ⟨.ref (ec (wNm i)), .ref (ec (wNm i)), decide (i = j), rfl, fun u hu => hu, hj.k i hi, h⟩
end
theorem nd3 : (["call", "error", "flags"] : List Str).Nodup := by decide
theorem word_gives {X : Cx} {ec : Str → Addr} {x q : Str} {sg : Scope} {g : Addr} {cdg : Value} (C : WordCls X.K X.mg ec)
    (l0 : sg.names.lookup ("call" : Str) = some .local) (l1 : sg.names.lookup ("error" : Str) = some .local) (l2 : sg.names.lookup ("flags" : Str) = some .local) (lw : sg.names.lookup ("WhyError" : Str) = some .globalImplicit) (li : sg.names.lookup ("isinstance" : Str) = some .globalImplicit)
    (ln : ∀ i, i < 4 → sg.names.lookup (wNm i) = some .globalImplicit)
    {p1 p2 p3 p4 p5 p6 p7 p8 p9 p10 p11 p12 p13 p14 p15 p16 p17 p18 p19 p20 p21 p22 p23 p24 p25 p26 p27 p28 p29 p30 p31 p32 p33 p34 p35 p36 p37 p38 p39 p40 p41 p42 p43 p44 p45 p46 p47 p48 p49 p50 : Pos} {j1 j2 j3 j4 j5 j6 j7 j8 j9 : Nat}
    (hl1 : (p25.endLine == p31.line) = true) (hl2 : (p33.endLine == p35.line) = true) (hl3 : (p43.endLine == p45.line) = true) :
    LamX.GivesTo X ["call", "error", "flags"] x sg g cdg [
      .Try [.Expr (.Call (.Name "call" p1) [] [] p2) p3] [.ExceptHandler (some (.Name "WhyError" p4)) (some "error") [
        .Assign [.Name "flags" p5] (.List [.Call (.Name "isinstance" p6) [.Name "error" p7, .Name "NoEdit" p8] [] p9, .Call (.Name "isinstance" p10) [.Name "error" p11, .Name "NoPath" p12] [] p13, .Call (.Name "isinstance" p14) [.Name "error" p15, .Name "NoState" p16] [] p17] p18) p19,
        .Expr (.Call (.Attribute (.Name "flags" p24) "append" p25) [.Call (.Name "isinstance" p26) [.Name "error" p27, .Name "NoValue" p28] [] p29] [] p31) p30,
        .Return (some (.IfExp (.Compare (.Call (.Attribute (.Name "flags" p32) "count" p33) [.Constant (.bool true) j1 p34] [] p35) [.Eq] [.Constant (.int 1) j2 p36] p37)
          (.Subscript (.List [.Constant (.str "edit") j3 p38, .Constant (.str "path") j4 p39, .Constant (.str "state") j5 p40, .Constant (.str "value") j6 p41] p42) (.Call (.Attribute (.Name "flags" p46) "index" p43) [.Constant (.bool true) j7 p44] [] p45) p20)
          (.Constant (.str "other") j8 p21) p22)) p23] p47] [] [] p48, .Return (some (.Constant (.str "let") j9 p49)) p50] "call" q (TTw X.K ec) := by
  intro f c' s H Q tl act hc h
  let Z : Cx := (cxOf C8.CX0 X.prog X.w X.K X.mg X.base ["call", "error", "flags"] x sg g cdg X.A X.stack s H C8.E0)
  let ts : Addr → Value → Option Addr → TS := fun a cls d D σ H => d = none ∧ ∃ j, j < 4 ∧ WordE X.K ec j ∧ cls = .ref (ec (wNm j)) ∧ (∃ σ0 : L2.St, σ = σ0.set 1 (some (.ref a))) ∧ ∀ H'', (∀ b o, H b = some o → H'' b = some o) → D.rt (.str (wWd j)) H''
  refine ⟨_, pss_cons (ps_try_as (X := Z.nox) (i := 1) (c := .ref (ec "WhyError")) (Wout := fun _ _ _ _ => False)
      (tb := fun W D σ H => ∃ Ech : XK, (∀ cls d σ' H', Ech cls d H' → W cls d σ' H') ∧ σ[0]? = some (some (.ref f)) ∧ H c' = some (LamX.CodeO c' q) ∧ tl Ech H fun _ H' => D.nx σ H')
      (ts := ts) rfl rfl nd3 rfl l1 ⟨lw, by decide, .inl C.why⟩ LamX.takes0 (fun W pn xe tk _ => ?_) (fun a oe cls d pn hz hf => ?_)) (pss_one (ps_ret pe_str)), ?_⟩
  · refine ⟨fun pins s' σ H' D I h' => ?_⟩
    obtain ⟨Ech, hW, h1, h2, h3⟩ := h'
    have hp := act W pn xe Ech p1 p2 tk hW
    have hq := pss_one (ps_expr (pos := p3) hp rfl)
    exact hq.run pins s' σ H' D I ⟨h1, h2, h3⟩
  · refine ⟨fun pins s' σ H' D I h' => ?_⟩
    obtain ⟨rfl, j, hj4, hj, rfl, ⟨σ0, rfl⟩, hr⟩ := h'
    have hlen : (σ0.set 1 (some (V.ref a))).length = 3 := I.len
    have h0 : σ0.length = 3 := by simpa using hlen
    have s1 : (σ0.set 1 (some (V.ref a)))[1]? = some (some (V.ref a)) := List.getElem?_set_self (by omega)
    have s2 : ∀ v : V, ((σ0.set 1 (some (V.ref a))).set 2 (some v))[1]? = some (some (V.ref a)) := fun v => by rw [List.getElem?_set_ne (by omega)]; exact s1
    have s3 : ∀ v : V, ((σ0.set 1 (some (V.ref a))).set 2 (some v))[2]? = some (some v) := fun v => List.getElem?_set_self (by simp; omega)
    have i1 := pe_isE (X := Z.nox) (a := a) (pn := pn) (i := 0) (p1 := p6) (p2 := p7) (p3 := p8) (p4 := p9) hj hz hf rfl (.inl l1) (by omega) li C.isi (ln 0 (by omega)) C.m1 (by decide)
    have i2 := pe_isE (X := Z.nox) (a := a) (pn := pn) (i := 1) (p1 := p10) (p2 := p11) (p3 := p12) (p4 := p13) hj hz hf rfl (.inl l1) (by omega) li C.isi (ln 1 (by omega)) C.m2 (by decide)
    have i3 := pe_isE (X := Z.nox) (a := a) (pn := pn) (i := 2) (p1 := p14) (p2 := p15) (p3 := p16) (p4 := p17) hj hz hf rfl (.inl l1) (by omega) li C.isi (ln 2 (by omega)) C.m3 (by decide)
    have i4 := pe_isE (X := Z.nox) (a := a) (pn := pn) (i := 3) (p1 := p26) (p2 := p27) (p3 := p28) (p4 := p29) hj hz hf rfl (.inl l1) (by omega) li C.isi (ln 3 (by omega)) C.m4 (by decide)
    have fl : ∀ pp : Pos, PE (Z.nox.suite a ((a, oe) :: pn)) (.Name "flags" pp) (tVar 2) := fun pp => pe_var (X := Z.nox.suite a ((a, oe) :: pn)) rfl (.inl l2) (by decide) (by decide)
    have kb : ∀ (jj : Nat) (pp : Pos), PE (Z.nox.suite a ((a, oe) :: pn)) (.Constant (.bool true) jj pp) (tC (.bl true)) := fun _ _ => pe_bl
    have ki : ∀ (jj : Nat) (pp : Pos), PE (Z.nox.suite a ((a, oe) :: pn)) (.Constant (.int 1) jj pp) (tC (.int 1)) := fun _ _ => pe_int
    have ks : ∀ (w : Str) (jj : Nat) (pp : Pos), PE (Z.nox.suite a ((a, oe) :: pn)) (.Constant (.str w) jj pp) (tC (.str w)) := fun _ _ _ => pe_str
    have S1 := ps_set (X := Z.nox.suite a ((a, oe) :: pn)) (i := 2) (x := "flags") (pos' := p5) (pos := p19) nd3 rfl (.inl l2) (pe_lst (pos := p18) (pa_cons i1 (pa_cons i2 (pa_cons i3 pa_nil)))) rfl (.inr l2)
    have S2 := ps_expr (pos := p30) (pe_bm (cpos := p31) PySem.F.plainAttrs_list PySem.F.slot_list_append PySem.F.type_list_append mt_append (fl p24) (pa_cons i4 pa_nil) rfl rfl hl1 rfl rfl) rfl
    have cnt := pe_bm (cpos := p35) PySem.F.plainAttrs_list PySem.F.slot_list_count PySem.F.type_list_count mt_countF (fl p32) (pa_cons (kb j1 p34) pa_nil) rfl rfl hl2 rfl rfl
    have idx := pe_bm (cpos := p45) PySem.F.plainAttrs_list PySem.F.slot_list_index PySem.F.type_list_index mt_index (fl p46) (pa_cons (kb j7 p44) pa_nil) rfl rfl hl3 rfl rfl
    have S3 := ps_ret (pos := p23) (pe_ifExp (pos := p22) (pt_cmpR (pos := p37) op_eq cnt (ki j2 p36) rfl)
      (pe_ix (pos := p20) ix_seq (pe_lst (pos := p42) (pa_cons (ks "edit" j3 p38) (pa_cons (ks "path" j4 p39) (pa_cons (ks "state" j5 p40) (pa_cons (ks "value" j6 p41) pa_nil))))) idx (fun _ _ => rfl))
      (ks "other" j8 p21))
    refine (pss_cons S1 (pss_cons S2 (pss_one S3))).run pins s' _ H' D I ?_
    refine ⟨s1, s1, s1, by show 3 ≤ sizeLine; decide, fun p hp => ?_⟩
    refine ⟨.ref p, s3 _, .inl ⟨rfl, _, SqL.of upd_same⟩, s2 _, ?_⟩
    refine ⟨p, _, _, rfl, rfl, upd_same, by show 3 < sizeLine; decide, ?_⟩
    have hext : ∀ b o, H' b = some o → (upd (upd H' p (.lst [.bl (decide (0 = j)), .bl (decide (1 = j)), .bl (decide (2 = j))])) p (.lst ([.bl (decide (0 = j)), .bl (decide (1 = j)), .bl (decide (2 = j))] ++ [.bl (decide (3 = j))]))) b = some o := fun b o e => by
      have : b ≠ p := ne_of_none e hp
      rw [upd_ne this, upd_ne this]; exact e
    generalize hH2 : upd (upd H' p (.lst [.bl (decide (0 = j)), .bl (decide (1 = j)), .bl (decide (2 = j))])) p (.lst ([.bl (decide (0 = j)), .bl (decide (1 = j)), .bl (decide (2 = j))] ++ [.bl (decide (3 = j))])) = H2 at hext
    have hP : H2 p = some (.lst ([.bl (decide (0 = j)), .bl (decide (1 = j)), .bl (decide (2 = j))] ++ [.bl (decide (3 = j))])) := by rw [← hH2]; exact upd_same
    dsimp only
    clear S1 S2 S3 cnt idx i1 i2 i3 i4
    refine ⟨.ref p, s3 _, .inl ⟨rfl, _, SqL.of hP⟩, p, _, _, rfl, rfl, SqL.of hP, rfl, rfl, ?_⟩
    have h4 : j = 0 ∨ j = 1 ∨ j = 2 ∨ j = 3 := by omega
    have fin : ∀ (p2 : Addr), H2 p2 = none → ∀ (i : Nat) (w : V), ([V.str "edit", V.str "path", V.str "state", V.str "value"] : List V)[i]? = some w → w = .str (wWd j) → rIx X.K (.ref p2) (.int (i : Nat)) (upd H2 p2 (.lst [.str "edit", .str "path", .str "state", .str "value"])) D.rt := fun p2 h2 i w hi hw => by
      subst hw
      refine .inl ⟨p2, _, _, _, rfl, rfl, SqL.of upd_same, ?_, hr _ fun b o e => ?_⟩
      · have hlt : i < 4 := (List.getElem?_eq_some_iff.mp hi).1
        rw [← hi]
        have : i = 0 ∨ i = 1 ∨ i = 2 ∨ i = 3 := by omega
        rcases this with rfl | rfl | rfl | rfl <;> rfl
      · have e2 := hext b o e
        rw [upd_ne (ne_of_none e2 h2)]; exact e2
    have hp2 : ∀ p2, H2 p2 = none → ∀ o, upd H2 p2 o p = some (.lst ([.bl (decide (0 = j)), .bl (decide (1 = j)), .bl (decide (2 = j))] ++ [.bl (decide (3 = j))])) := fun p2 h2 o => by
      rw [upd_ne (ne_of_none hP h2)]; exact hP
    rcases h4 with rfl | rfl | rfl | rfl
    all_goals
      refine ⟨rfl, _, rfl, iteT ⟨by show 4 ≤ sizeLine; decide, fun p2 h2 => ⟨.ref p, s3 _, .inl ⟨rfl, _, SqL.of (hp2 p2 h2 _)⟩, ?_⟩⟩⟩
    · exact ⟨p, _, _, 0, _, rfl, rfl, SqL.of (hp2 p2 h2 _), rfl, rfl, rfl, rfl, fun m z' hm _ => by omega, fin p2 h2 0 _ rfl rfl⟩
    · exact ⟨p, _, _, 1, _, rfl, rfl, SqL.of (hp2 p2 h2 _), rfl, rfl, rfl, rfl, fun m z' hm hz => by
        have : m = 0 := by omega
        subst this; cases hz; rfl, fin p2 h2 1 _ rfl rfl⟩
    · exact ⟨p, _, _, 2, _, rfl, rfl, SqL.of (hp2 p2 h2 _), rfl, rfl, rfl, rfl, fun m z' hm hz => by
        have : m = 0 ∨ m = 1 := by omega
        rcases this with rfl | rfl <;> (cases hz; rfl), fin p2 h2 2 _ rfl rfl⟩
    · exact ⟨p, _, _, 3, _, rfl, rfl, SqL.of (hp2 p2 h2 _), rfl, rfl, rfl, rfl, fun m z' hm hz => by
        have : m = 0 ∨ m = 1 ∨ m = 2 := by omega
        rcases this with rfl | rfl | rfl <;> (cases hz; rfl), fin p2 h2 3 _ rfl rfl⟩
  · refine ⟨fun cls d H' => d = none ∧ ∃ j, j < 4 ∧ WordE X.K ec j ∧ cls = .ref (ec (wNm j)) ∧ ∀ H'', (∀ b o, H' b = some o → H'' b = some o) → Q (.str (wWd j)) H'', fun cls d σ' H' ⟨e1, j, e2, e3, e4, e5⟩ => ?_, rfl, hc, ?_⟩
    · subst e1 e4
      exact ⟨true, e3.x, fun _ b hb => ⟨rfl, j, e2, e3, rfl, ⟨σ', rfl⟩, e5⟩, fun z => by cases z⟩
    · exact h
end Wy
end
section
set_option maxRecDepth 100000
set_option maxHeartbeats 4000000
namespace Wy
open PySem PySem.Spec PyProof.Rows L2
def wordU (c : Str) : Option Str := if c = "NoEdit" then some "edit" else if c = "NoPath" then some "path" else if c = "NoState" then some "state" else if c = "NoValue" then some "value" else none
def wdU (m : UM U) : UM U := match m with
  | some (.ok _, S) => some (.ok (.str "let"), S)
  | some (.err c, S) => (match wordU c with | some w => some (.ok (.str w), S) | none => none)
  | none => none
theorem wordU_some {c w : Str} (h : wordU c = some w) : ∃ j, j < 4 ∧ c = wNm j ∧ w = wWd j := by
  unfold wordU at h
  split at h
  · rename_i e; exact ⟨0, by omega, e, (Option.some.inj h).symm⟩
  · split at h
    · rename_i e; exact ⟨1, by omega, e, (Option.some.inj h).symm⟩
    · split at h
      · rename_i e; exact ⟨2, by omega, e, (Option.some.inj h).symm⟩
      · split at h
        · rename_i e; exact ⟨3, by omega, e, (Option.some.inj h).symm⟩
        · cases h
theorem word_read {K : PySem.W.Frag} {T : List (Addr × Str)} {ec : Str → Addr} {W : WX} {ma : En → Sto → UM U} (hE : ∀ j, j < 4 → WordE K ec j) (σ : L2.St) (H : Hp) (Q : VK)
    (h : TX K T ec W (RV K) (fun ρ S => wdU (ma ρ S)) σ H Q) : LamX.tLam T (TTw K ec) (fun E => TX K T ec (fun cls d _ H => E cls d H) (RV K) ma) σ H Q := by
  obtain ⟨ρ, S, μ, J, rel, h⟩ := h
  refine ⟨rel.tab, fun H1 eN T1 => ?_⟩
  obtain ⟨st1, rel1⟩ := rel.extN eN T1
  refine ⟨ρ, S, μ, J, rel1, ?_⟩
  have h' : Fin' K T ec W (RV K) μ J ρ σ H (wdU (ma ρ S)) Q := h
  clear h
  match e : ma ρ S, h' with
  | none, h => exact h
  | some (.ok u, S'), h => exact fun v μ' J' H' st rel' ru => h (.str "let") μ' J' H' (st1.trans st) rel' (.str _)
  | some (.err c, S'), h =>
    intro μ' J' H' st rel'
    cases hw : wordU c with
    | none =>
      have h : Fin' K T ec W (RV K) μ J ρ σ H (match wordU c with | some w => some (.ok (.str w), S') | none => none) Q := h
      rw [hw] at h
      exact h.elim
    | some w =>
      have h : Fin' K T ec W (RV K) μ J ρ σ H (match wordU c with | some w => some (.ok (.str w), S') | none => none) Q := h
      rw [hw] at h
      obtain ⟨j, hj, rfl, rfl⟩ := wordU_some hw
      refine ⟨rfl, j, hj, hE j hj, rfl, fun H'' ext => ?_⟩
      obtain ⟨st2, rel2⟩ := rel'.extN (LamX.ExtN.of ext) (rel'.tab.ext ext)
      exact h (.str (wWd j)) μ' J' H'' ((st1.trans st).trans st2) rel2 (.str _)
theorem wordOk {I : Info} {T : List (Addr × Str)} {ec : Str → Addr} {k : Nat} {X : Cx} {W : WX} {g : Addr} {fd : FuncData} {params : Arguments} {body : List Stmt} {sc : Scope} {Ng : List Str}
    (F : FunD X.K I.word I.word params body sc [] [] g fd) (hm : X.mg I.word = some (.ref g)) (hb : Binds X.K fd ["call"] []) (hdb : (I.word == ("__debug__" : Str)) = false) (Sg : FnScope Ng ["call"] sc) (hNg : Ng[0]? = some ("call" : Str))
    (hG : ∀ (q : Str) (cdv : Value), LamX.GivesTo X Ng I.word sc g cdv body "call" q (TTw X.K ec)) (hE : ∀ j, j < 4 → WordE X.K ec j) (hl : LamOk T X) (hr : Room (k + 2) X.A) : WordOk I T ec wdU X W k := by
  intro params' body' scope p lpos pos ma hp L hg hbody
  obtain ⟨oc, od, dV, kV, doc, pm, an, cdv, ct, osl, rfl, lk, hcd, _, _⟩ := F.ex
  obtain ⟨c, P, TB, hcode, hmT, hu⟩ := hl
  have := noPar_eq hp
  subst this
  have hva : Vis sc "call" := by
    rcases Sg.par "call" (by simp) with h | h
    · exact .inl h
    · exact .inr (.inl h)
  exact pe_imp (LamX.pe_lamcall hg hm F.kp lk hcd hb Sg hNg hva (hG _ cdv) TB hcode hmT hu hr L rfl (fun _ _ _ _ _ => rfl) hbody hdb (by decide) (by decide)) (word_read hE)
end Wy
end
section
set_option maxRecDepth 100000
set_option maxHeartbeats 4000000
namespace Wy
open PySem PySem.Spec PyProof.Rows L2
/-! ### facts told by a Bool of the head's frag -/
theorem excCB_ok {K : PySem.W.Frag} {D : Addr} (h : excCB K D = true) : ExcC K D := by
  unfold excCB at h
  obtain ⟨h1, h⟩ := andB h
  obtain ⟨h2, h⟩ := andB h
  obtain ⟨h3, h⟩ := andB h
  obtain ⟨h4, h⟩ := andB h
  obtain ⟨h5, h⟩ := andB h
  obtain ⟨h6, h⟩ := andB h
  obtain ⟨h7, h8⟩ := andB h
  exact ⟨of_decide_eq_true h1, of_decide_eq_true h2, of_decide_eq_true h3, h4, of_decide_eq_true h5, of_decide_eq_true h6, of_decide_eq_true h7, of_decide_eq_true h8⟩
theorem wordB_ok {K : PySem.W.Frag} {j : Nat} (h : wordB K j = true) : WordE K (He.ga K) j := by
  obtain ⟨h1, h⟩ := andB h
  obtain ⟨h2, h3⟩ := andB h
  refine ⟨excCB_ok h1, of_decide_eq_true h2, fun i hi => ?_⟩
  have hm : i ∈ ([0, 1, 2, 3] : List Nat) := by
    have : i = 0 ∨ i = 1 ∨ i = 2 ∨ i = 3 := by omega
    rcases this with rfl | rfl | rfl | rfl <;> simp
  exact of_decide_eq_true (List.all_eq_true.mp h3 i hm)
/-- a table of ints, read -/
theorem dg_ok {K : PySem.W.Frag} {w : World} {mg : Str → Option Value} {x : Str} {kvs : List (Str × Int)} (hm : mg x = some (.ref (He.ga K x))) (hd : He.dicW K (He.ga K x) = some (He.keysIn w.params (kvs.map (·.1)))) (hv : He.valsB K (He.ga K x) (kvs.map fun p => (p.1, He.Dv.int p.2)) = true) :
    DgOk K w mg x kvs := by
  obtain ⟨es, n, kd⟩ := He.dicW_ok hd
  refine ⟨_, es, n, hm, kd, fun z => ?_⟩
  cases hl : kvs.lookup z with
  | some i =>
    have hmem : (z, i) ∈ kvs := PySem.mem_of_lookup hl
    obtain ⟨u, e1, e2⟩ := He.valsB_ok hv (q := (z, He.Dv.int i)) (List.mem_map.mpr ⟨(z, i), hmem, rfl⟩)
    obtain ⟨t, rfl⟩ := (show ∃ t, u = Value.int i t from e2)
    exact ⟨_, e1, fun i' t' => ⟨t, rfl⟩⟩
  | none =>
    refine ⟨none, ?_, fun i t => ⟨t, rfl⟩⟩
    have hk : ∀ e ∈ es.toList, ∃ k t, e.key = .str k t ∧ k ∈ kvs.map (·.1) := by
      have h2 : es.toList.map He.keyOf = He.keysIn w.params (kvs.map (·.1)) := by
        unfold He.dicW at hd
        rw [kd.at_] at hd
        have hd : (match decide ("dict" = "dict") && ((#[] : Array (Option Value)).isEmpty && !(He.ga K x == sysModules)) with
          | true => some (es.toList.map He.keyOf)
          | false => none) = some (He.keysIn w.params (kvs.map (·.1))) := hd
        rw [kd.low] at hd
        exact Option.some.inj hd
      intro e he
      have h3 : He.keyOf e ∈ He.keysIn w.params (kvs.map (·.1)) := by rw [← h2]; exact List.mem_map.mpr ⟨e, he, rfl⟩
      obtain ⟨k, hk1, hk2⟩ := List.mem_map.mp h3
      unfold He.keyOf at hk2
      split at hk2
      · rename_i y t hy
        have := (Prod.mk.inj (Option.some.inj hk2)).1
        exact ⟨y, t, hy, this ▸ hk1⟩
      · cases hk2
    unfold PySem.W.nsIn
    rw [kd.at_]
    dsimp only
    have nz : z ∉ kvs.map (·.1) := fun hz => by
      obtain ⟨p, hp, rfl⟩ := List.mem_map.mp hz
      have : ∀ l : List (Str × Int), p ∈ l → l.lookup p.1 ≠ none := fun l => by
        induction l with
        | nil => intro h; simp at h
        | cons q l ih =>
          intro h e
          rw [List.lookup_cons] at e
          by_cases c : p.1 == q.1
          · rw [c] at e; cases e
          · have c' : (p.1 == q.1) = false := by simpa using c
            rw [c'] at e
            rcases List.mem_cons.mp h with rfl | h
            · simp at c
            · exact ih h e
      exact this kvs hp hl
    have hf : es.toList.find? (fun e => e.key.isStr z) = none := by
      rw [List.find?_eq_none]
      intro e he
      obtain ⟨k, t, e1, e2⟩ := hk e he
      rw [e1]
      intro hh
      have : k = z := by simpa [Value.isStr] using hh
      subst this
      exact nz e2
    rw [hf]
    have hr : es.toList.any (·.refKey) = false := by
      rw [List.any_eq_false]
      intro e he
      obtain ⟨k, t, e1, e2⟩ := hk e he
      unfold DictEntry.refKey
      rw [e1]
      simp
    rw [hr]
    rfl
end Wy
end
section
set_option maxRecDepth 100000
set_option maxHeartbeats 4000000
namespace Wy
open PySem PySem.Spec PyProof.Rows L2
theorem zip_lookup {α : Type} : ∀ {ps : List Str} {us : List α}, ps.Nodup → us.length = ps.length → ∀ n ∈ ps, ((ps.zip us).lookup n).isSome = true
  | [], _, _, _, n, h => by simp at h
  | p :: ps, [], _, hl, n, h => by simp at hl
  | p :: ps, u :: us, nd, hl, n, h => by
    rw [List.zip_cons_cons, List.lookup_cons]
    by_cases e : n = p
    · subst e; simp
    · have : (n == p) = false := by simpa using e
      rw [this]
      rcases List.mem_cons.mp h with h | h
      · exact absurd h e
      · exact zip_lookup (List.nodup_cons.mp nd).2 (by simpa using hl) n h
theorem zip_filter {α : Type} : ∀ {ps : List Str} {us : List α}, ps.Nodup → us.length = ps.length → (ps.filterMap fun n => ((ps.zip us).lookup n).map (n, ·)) = ps.zip us
  | [], _, _, _ => rfl
  | p :: ps, [], _, hl => by simp at hl
  | p :: ps, u :: us, nd, hl => by
    obtain ⟨h1, h2⟩ := List.nodup_cons.mp nd
    have ih := zip_filter (us := us) h2 (by simpa using hl)
    rw [List.zip_cons_cons, List.filterMap_cons, List.lookup_cons]
    simp only [beq_self_eq_true, Option.map_some]
    congr 1
    refine Eq.trans ?_ ih
    have key : ∀ l : List Str, (∀ n ∈ l, n ≠ p) → l.filterMap (fun n => (((p, u) :: ps.zip us).lookup n).map (n, ·)) = l.filterMap fun n => ((ps.zip us).lookup n).map (n, ·) := fun l => by
      induction l with
      | nil => intro _; rfl
      | cons n l ih2 =>
        intro hn
        have : (n == p) = false := by simpa using hn n List.mem_cons_self
        have e : List.lookup n ((p, u) :: ps.zip us) = (ps.zip us).lookup n := by rw [List.lookup_cons, this]
        rw [List.filterMap_cons, List.filterMap_cons, e, ih2 fun m hm => hn m (List.mem_cons_of_mem _ hm)]
    exact key ps fun n hn e => h1 (e ▸ hn)
def parsB (ps : List Str) : Arguments → Bool
  | ⟨[], as, none, [], [], none, []⟩ => decide (as.map (·.arg) = ps)
  | _ => false
theorem bind_plain {fd : FuncData} {ps : List Str} {us : List Value} (hp : parsB ps fd.params = true) (hd : fd.defaults = .none) (nd : ps.Nodup) (hl : us.length = ps.length) : bindArgs fd ⟨us, []⟩ = pure (ps.zip us) := by
  have hz := fun n hn => zip_lookup (us := us) nd hl n hn
  have hf := zip_filter (us := us) nd hl
  generalize hpa : fd.params = pa at hp
  unfold parsB at hp
  split at hp
  · rename_i as
    have e := of_decide_eq_true hp
    unfold bindArgs
    rw [hpa, hd]
    simp only [List.map_nil, List.nil_append, e, List.append_nil]
    simp only [List.forIn_nil, pure_bind, bind_pure_comp, seqItems?]
    have hn : notAStandIn Value.none = pure PUnit.unit := rfl
    have hm : List.filter (fun n => (List.lookup n (ps.zip us)).isNone) ps = [] := by
      rw [List.filter_eq_nil_iff]
      intro n hn2
      have := hz n hn2
      cases q : List.lookup n (ps.zip us) with
      | none => rw [q] at this; cases this
      | some v => simp
    have hg : ¬ (decide (us.length > ps.length) && (none : Option Arg).isNone) = true := by simp; omega
    rw [hn]
    simp only [map_pure, pure_bind, Option.getD_none, List.length_nil, List.drop_nil, Nat.sub_zero, List.take_length, hm, List.isEmpty_nil, Bool.not_true, Bool.false_eq_true, if_false, List.zip_nil_right, List.forIn_nil, hf]
    rw [if_neg hg]
  · cases hp
def scopeB (d : FDef) (sc : Scope) : Bool := (match sc.kind with | .function => true | _ => false) && (!sc.isCoroutine && (!sc.isGenerator && (decide d.N.Nodup && (decide (d.N.take d.ps.length = d.ps) &&
  ((d.ps.all fun x => match sc.names.lookup x with | some .local => true | some .cell => true | _ => false) && sc.names.all fun y => decide (y.2 ≠ .free))))))
theorem scopeB_ok {d : FDef} {sc : Scope} (h : scopeB d sc = true) : FnScope d.N d.ps sc := by
  obtain ⟨h1, h⟩ := andB h
  obtain ⟨h2, h⟩ := andB h
  obtain ⟨h3, h⟩ := andB h
  obtain ⟨h4, h⟩ := andB h
  obtain ⟨h5, h⟩ := andB h
  obtain ⟨h6, h7⟩ := andB h
  refine ⟨?_, by simpa using h2, by simpa using h3, of_decide_eq_true h4, of_decide_eq_true h5, fun x hx => ?_, fun y hy => of_decide_eq_true (List.all_eq_true.mp h7 y hy)⟩
  · split at h1
    · assumption
    · cases h1
  · have := List.all_eq_true.mp h6 x hx
    split at this
    · left; assumption
    · right; assumption
    · cases this
/-- a row of the table of defs: where it stands at the top, lambdas or not -/
structure Row where
  d : FDef
  top : Nat
  lam : Bool
  x : Str
def rowB (I : Info) (fnl : List (Str × Nat)) (lamN : List Str) (stm : Nat → Stmt) (i : Nat) (r : Row) : Bool :=
  (ckB I r.d.body ⟨r.d.N, defScope (stm r.top), fun _ => true, r.lam⟩ (defBody (stm r.top)) && scopeB r.d (defScope (stm r.top))) &&
  ((decide ((r.x, r.top) ∈ fnl) && decide (I.fns[i]? = some (r.x, r.d.ps.length))) && ((parsB r.d.ps (defArgs (stm r.top)) && decide r.d.ps.Nodup) && (!r.lam || decide (r.x ∈ lamN))))
end Wy
end
section
set_option maxRecDepth 100000
set_option maxHeartbeats 4000000
namespace Wy
open PySem PySem.Spec PyProof.Rows L2
theorem tbl_ok {I : Info} {fnl : List (Str × Nat)} {lamN : List Str} {stm : Nat → Stmt} {rows : List Row} {P : Program} {w : World} {K : PySem.W.Frag} {mg : Str → Option Value} {base : Heap} {T : List (Addr × Str)} {ec : Str → Addr}
    (hrows : ∀ i r, rows[i]? = some r → rowB I fnl lamN stm i r = true) (hlen : I.fns.length = rows.length)
    (hdefs : ∀ p ∈ fnl, ∃ fd, FunD K p.1 p.1 (defArgs (stm p.2)) (defBody (stm p.2)) (defScope (stm p.2)) [] [] (He.fAd K (p.1, none)) fd ∧ mg p.1 = some (.ref (He.fAd K (p.1, none))))
    (hint : ∀ p ∈ I.gInt, GloOk K mg p.1 (.int p.2)) (hstr : ∀ p ∈ I.gStr, GloOk K mg p.1 (.str p.2)) (hfree : ∀ x ∈ I.free, mg x = none) (hexc : ∀ x ∈ I.exc, ExcOk K mg ec x) (hdg : ∀ p ∈ I.dgs, DgOk K w mg p.1 p.2)
    (htab : ∀ x ∈ lamN, ∀ (oc : Value) (od : Option Addr) (pa : Arguments) (bd : List Stmt) (sc : Scope) (dV kV doc pm : Value) (an : Option Addr) (cdv ct : Value) (osl : Array (Option Value)), K.lookup (He.fAd K (x, none)) = some ⟨oc, od, .func (PySem.W.fnOf x x pa bd sc dV kV doc pm an cdv ct), osl⟩ → TabAt base mg T x cdv)
    (hword : ∀ (k : Nat) (X : Cx) (W : WX), X.prog = P → X.w = w → X.K = K → X.mg = mg → X.base = base → LamOk T X → Room (k + 2) X.A → WordOk I T ec wdU X W k) :
    ∀ d : Nat, GOk I P w K mg base T ec (3 * d) (run (rows.map fun r : Row => r.d) wdU d) := by
  have row_of : ∀ (i : Nat) (x : Str) (n : Nat), I.fns[i]? = some (x, n) → ∃ r, rows[i]? = some r ∧ rowB I fnl lamN stm i r = true ∧ x = r.x ∧ n = r.d.ps.length := fun i x n h => by
    have hi : i < rows.length := by rw [← hlen]; exact (List.getElem?_eq_some_iff.mp h).1
    have hr := hrows i rows[i] (by simp [hi])
    obtain ⟨_, h2⟩ := andB hr
    obtain ⟨h3, _⟩ := andB h2
    obtain ⟨_, h4⟩ := andB h3
    have h4 := of_decide_eq_true h4
    rw [h] at h4
    cases h4
    exact ⟨rows[i], by simp [hi], hr, rfl, rfl⟩
  intro d
  induction d with
  | zero =>
    refine ⟨hint, hstr, hfree, fun i x n h => ?_, fun i x n h us S _ => rfl, hexc, hdg⟩
    obtain ⟨r, h1, h2, rfl, rfl⟩ := row_of i x n h
    obtain ⟨g1, g2⟩ := andB h2
    obtain ⟨g3, g4⟩ := andB g2
    obtain ⟨g5, g6⟩ := andB g3
    obtain ⟨g7, g8⟩ := andB g4
    obtain ⟨a1, a2⟩ := andB g7
    obtain ⟨fd, F, hm⟩ := hdefs _ (of_decide_eq_true g5)
    refine ⟨_, fd, r.d.ps, ⟨fun vs H Q E h => h.1, fun A outer s H args us vs Q E _ _ _ _ hsp => ?_⟩, hm, F.kp, F.bindsN fun _ _ _ _ _ _ us hl => bind_plain a1 rfl (of_decide_eq_true a2) hl⟩
    obtain ⟨_, us, S, μ, J, rel, ru, h⟩ := hsp
    exact h.elim
  | succ d ih =>
    refine ⟨hint, hstr, hfree, fun i x n h => ?_, fun i x n h us S hn => ?_, hexc, hdg⟩
    · obtain ⟨r, h1, h2, rfl, rfl⟩ := row_of i x n h
      obtain ⟨g1, g2⟩ := andB h2
      obtain ⟨g3, g4⟩ := andB g2
      obtain ⟨g5, g6⟩ := andB g3
      obtain ⟨g7, g8⟩ := andB g4
      obtain ⟨a1, a2⟩ := andB g7
      obtain ⟨b1, b2⟩ := andB g1
      obtain ⟨fd, F, hm⟩ := hdefs _ (of_decide_eq_true g5)
      have e : run (rows.map (·.d)) wdU (d + 1) i = runBody (run (rows.map fun r : Row => r.d) wdU d) wdU r.d := by
        funext us S
        show (match (rows.map fun r : Row => r.d)[i]? with | some d' => runBody (run (rows.map fun r : Row => r.d) wdU d) wdU d' us S | none => none) = _
        rw [List.getElem?_map, h1]
        rfl
      refine ⟨_, fd, r.d.ps, ?_, hm, F.kp, F.bindsN fun _ _ _ _ _ _ us hl => bind_plain a1 rfl (of_decide_eq_true a2) hl⟩
      rw [e]
      have hx : r.lam = true → r.x ∈ lamN := fun hl => by
        rw [hl] at g8
        exact of_decide_eq_true (by simpa using g8)
      exact fn_okU (lam := r.lam) F (scopeB_ok b2) b1 ih (fun hl oc od dV kV doc pm an cdv ct osl lk => htab _ (hx hl) oc od _ _ _ dV kV doc pm an cdv ct osl lk) (fun _ X W e1 e2 e3 e4 e5 => hword (3 * d) X W e1 e2 e3 e4 e5)
    · obtain ⟨r, h1, h2, rfl, rfl⟩ := row_of i x n h
      show (match (rows.map fun r : Row => r.d)[i]? with | some d' => runBody (run (rows.map fun r : Row => r.d) wdU d) wdU d' us S | none => none) = _
      rw [List.getElem?_map, h1]
      show runBody (run (rows.map fun r : Row => r.d) wdU d) wdU r.d us S = none
      unfold runBody
      rw [if_neg hn]
end Wy
end
section
set_option maxRecDepth 100000
set_option maxHeartbeats 0
namespace Core49
open Wy PySem
def d_EDIT_SIZES : List (Str × Int) := [("put", 3), ("drop", 2), ("part", 4), ("ahead", 4), ("cut", 3), ("choose", 3), ("unchoose", 2)]
def c0 : FDef := ⟨["thing"], ["thing"], (.cons (.ret (.and (.cons (.isi (.var 0) .int) (.cons (.not (.isi (.var 0) .bool)) .nil)))) .nil)⟩ -- is_integer
def c1 : FDef := ⟨["thing", "low", "high"], ["thing", "low", "high"], (.cons (.ret (.and (.cons (.call 0 (.cons (.var 0) .nil)) (.cons (.chain .le .le (.var 1) (.var 0) (.var 2)) .nil)))) .nil)⟩ -- is_within
def c2 : FDef := ⟨["thing", "sign"], ["thing"], (.cons (.ite (.or (.cons (.not (.isi (.var 0) .str)) (.cons (.not (.chain .le .le (.k (.int 1)) (.blt .len (.var 0)) (.glo "MOST_NAME" (.int 12)))) .nil))) (.cons (.ret (.k (.bl false))) .nil) .nil) (.cons (.ret (.blt .all (.ofL (.comp (.chain .le .le (.k (.str "a")) (.var 1) (.k (.str "z"))) (.n 1) (.seq (.var 0)) .no [("sign", 1)])))) .nil))⟩ -- is_name
def c3 : FDef := ⟨["thing", "sign"], ["thing"], (.cons (.ite (.isi (.var 0) .bool) (.cons (.ret (.k (.bl true))) .nil) .nil) (.cons (.ite (.call 0 (.cons (.var 0) .nil)) (.cons (.ret (.cmp .lt (.blt .abs (.var 0)) (.glo "MOST_FIGURE" (.int 1000000000000000000)))) .nil) .nil) (.cons (.ite (.or (.cons (.not (.isi (.var 0) .str)) (.cons (.cmp .gt (.blt .len (.var 0)) (.glo "MOST_SIGNS" (.int 40))) .nil))) (.cons (.ret (.k (.bl false))) .nil) .nil) (.cons (.ret (.blt .all (.ofL (.comp (.and (.cons (.chain .le .le (.k (.str " ")) (.var 1) (.k (.str "~"))) (.cons (.cmp .ne (.blt .ord (.var 1)) (.glo "BARRED_SIGN" (.int 37))) .nil))) (.n 1) (.seq (.var 0)) .no [("sign", 1)])))) .nil))))⟩ -- is_plain
def c4 : FDef := ⟨["thing", "most", "at", "pair"], ["thing", "most"], (.cons (.ite (.or (.cons (.not (.isi (.var 0) .tuple)) (.cons (.cmp .gt (.blt .len (.var 0)) (.var 1)) .nil))) (.cons (.ret (.k (.bl false))) .nil) .nil) (.cons (.ite (.not (.blt .all (.ofL (.comp (.and (.cons (.isi (.var 3) .tuple) (.cons (.cmp .eq (.blt .len (.var 3)) (.k (.int 2))) (.cons (.call 2 (.cons (.sub (.var 3) (.k (.int 0))) .nil)) .nil)))) (.n 3) (.seq (.var 0)) .no [("pair", 3)])))) (.cons (.ret (.k (.bl false))) .nil) .nil) (.cons (.ret (.blt .all (.ofL (.comp (.cmp .lt (.sub (.sub (.var 0) (.var 2)) (.k (.int 0))) (.sub (.sub (.var 0) (.bin .add (.var 2) (.k (.int 1)))) (.k (.int 0)))) (.n 2) (.range (.bin .sub (.blt .len (.var 0)) (.k (.int 1)))) .no [("at", 2)])))) .nil)))⟩ -- are_named
def c5 : FDef := ⟨["thing", "most", "pair"], ["thing", "most"], (.cons (.ite (.or (.cons (.not (.isi (.var 0) .tuple)) (.cons (.cmp .lt (.blt .len (.var 0)) (.k (.int 2))) (.cons (.not (.isi (.sub (.var 0) (.k (.int 0))) .str)) .nil)))) (.cons (.ret (.k .non)) .nil) .nil) (.cons (.ite (.cmp .eq (.sub (.var 0) (.k (.int 0))) (.glo "FAULT" (.str "fault"))) (.cons (.ret (.ite (.and (.cons (.cmp .eq (.blt .len (.var 0)) (.k (.int 2))) (.cons (.call 2 (.cons (.sub (.var 0) (.k (.int 1))) .nil)) .nil))) (.tup .nil) (.k .non))) .nil) .nil) (.cons (.ite (.cmp .eq (.sub (.var 0) (.k (.int 0))) (.glo "REC" (.str "rec"))) (.cons (.ret (.ite (.and (.cons (.cmp .eq (.blt .len (.var 0)) (.k (.int 2))) (.cons (.call 4 (.cons (.sub (.var 0) (.k (.int 1))) (.cons (.glo "MOST_PAIRS" (.int 12)) .nil))) .nil))) (.blt .tuple (.ofL (.comp (.sub (.var 2) (.k (.int 1))) (.n 2) (.seq (.sub (.var 0) (.k (.int 1)))) .no [("pair", 2)]))) (.k .non))) .nil) .nil) (.cons (.ite (.cmp .eq (.sub (.var 0) (.k (.int 0))) (.glo "CASE" (.str "case"))) (.cons (.ret (.ite (.and (.cons (.cmp .eq (.blt .len (.var 0)) (.k (.int 3))) (.cons (.call 2 (.cons (.sub (.var 0) (.k (.int 1))) .nil)) .nil))) (.tup (.cons (.sub (.var 0) (.k (.int 2))) .nil)) (.k .non))) .nil) .nil) (.cons (.ite (.or (.cons (.not (.isi (.sub (.var 0) (.k (.int 1))) .tuple)) (.cons (.cmp .gt (.blt .len (.sub (.var 0) (.k (.int 1)))) (.var 1)) .nil))) (.cons (.ret (.k .non)) .nil) .nil) (.cons (.ite (.cmp .eq (.sub (.var 0) (.k (.int 0))) (.glo "LIST" (.str "list"))) (.cons (.ret (.ite (.cmp .eq (.blt .len (.var 0)) (.k (.int 2))) (.sub (.var 0) (.k (.int 1))) (.k .non))) .nil) .nil) (.cons (.ite (.or (.cons (.cmp .ne (.sub (.var 0) (.k (.int 0))) (.glo "BROKEN" (.str "broken"))) (.cons (.cmp .ne (.blt .len (.var 0)) (.k (.int 3))) (.cons (.cmp .eq (.blt .len (.sub (.var 0) (.k (.int 1)))) (.k (.int 0))) .nil)))) (.cons (.ret (.k .non)) .nil) .nil) (.cons (.ret (.ite .stop (.sub (.var 0) (.k (.int 1))) (.k .non))) .nil))))))))⟩ -- parts_of_whole
def c6 : FDef := ⟨["thing", "most", "deep", "is_clean", "waiting", "many", "here", "level", "inner", "part"], ["thing", "most", "deep", "is_clean"], (.cons (.parO 4 5 (.ofL (.disp (.cons (.tup (.cons (.var 0) (.cons (.k (.int 1)) .nil))) .nil))) (.k (.int 0))) (.cons (.whl (.cmp .gt (.olen 4) (.k (.int 0))) (.cons (.popU (.t2 6 7) 4) (.cons (.aug 5 (.k (.int 1))) (.cons (.ite (.or (.cons (.cmp .gt (.var 5) (.glo "MOST_PARTS" (.int 2000))) (.cons (.cmp .gt (.var 7) (.var 2)) .nil))) (.cons (.ret (.k (.bl false))) .nil) .nil) (.cons (.ite (.not (.call 3 (.cons (.var 6) .nil))) (.cons (.asg 8 (.call 5 (.cons (.var 6) (.cons (.var 1) .nil)))) (.cons (.ite (.or (.cons (.isN (.var 8)) (.cons (.and (.cons (.var 3) (.cons (.cmp .isin (.sub (.var 6) (.k (.int 0))) (.tup (.cons (.glo "FAULT" (.str "fault")) (.cons (.glo "BROKEN" (.str "broken")) .nil)))) .nil))) .nil))) (.cons (.ret (.k (.bl false))) .nil) .nil) (.cons (.ext 4 (.ofL (.comp (.tup (.cons (.var 9) (.cons (.bin .add (.var 7) (.k (.int 1))) .nil))) (.n 9) (.seq (.var 8)) .no [("part", 9)]))) .nil))) .nil) .nil))))) (.cons (.ret (.k (.bl true))) .nil)))⟩ -- is_told
def c7 : FDef := ⟨["thing"], ["thing"], (.cons (.ret (.call 6 (.cons (.var 0) (.cons (.glo "MOST_VALUES" (.int 400)) (.cons (.glo "MOST_DEEP" (.int 40)) (.cons (.k (.bl false)) .nil)))))) .nil)⟩ -- is_value
def c8 : FDef := ⟨["thing"], ["thing"], (.cons (.ret (.call 6 (.cons (.var 0) (.cons (.glo "MOST_GIVEN_VALUES" (.int 40)) (.cons (.glo "MOST_GIVEN_DEEP" (.int 12)) (.cons (.k (.bl true)) .nil)))))) .nil)⟩ -- is_given
def c9 : FDef := ⟨["thing", "pair"], ["thing"], (.cons (.ret (.and (.cons (.call 4 (.cons (.var 0) (.cons (.glo "MOST_NAMES" (.int 30)) .nil))) (.cons (.blt .all (.ofL (.comp (.call 8 (.cons (.sub (.var 1) (.k (.int 1))) .nil)) (.n 1) (.seq (.var 0)) .no [("pair", 1)]))) .nil)))) .nil)⟩ -- is_store
def c10 : FDef := ⟨["thing", "pair"], ["thing"], (.cons (.ret (.and (.cons (.call 4 (.cons (.var 0) (.cons (.glo "MOST_NAMES" (.int 30)) .nil))) (.cons (.blt .all (.ofL (.comp (.and (.cons (.call 0 (.cons (.sub (.var 1) (.k (.int 1))) .nil)) (.cons (.cmp .ge (.sub (.var 1) (.k (.int 1))) (.k (.int 0))) .nil))) (.n 1) (.seq (.var 0)) .no [("pair", 1)]))) .nil)))) .nil)⟩ -- are_choices
def c11 : FDef := ⟨["thing"], ["thing"], (.cons (.ite (.not (.call 9 (.cons (.var 0) .nil))) (.cons (.raise "NoStore") .nil) .nil) .nil)⟩ -- check_store
def c12 : FDef := ⟨["thing"], ["thing"], (.cons (.ite (.not (.call 10 (.cons (.var 0) .nil))) (.cons (.raise "NoChoices") .nil) .nil) .nil)⟩ -- check_choices
def c13 : FDef := ⟨["thing"], ["thing"], (.cons (.ite (.not (.call 7 (.cons (.var 0) .nil))) (.cons (.raise "NoValue") .nil) .nil) .nil)⟩ -- check_value
def c14 : FDef := ⟨["thing"], ["thing"], (.cons (.ite (.or (.cons (.not (.isi (.var 0) .str)) (.cons (.cmp .eq (.blt .len (.var 0)) (.k (.int 0))) .nil))) (.cons (.ret (.k (.bl false))) .nil) .nil) (.cons (.ret (.or (.cons (.cmp .isin (.var 0) (.tup (.cons (.glo "WITHIN" (.str "!")) (.cons (.glo "FIRST" (.str "<")) (.cons (.glo "REST" (.str ">")) .nil))))) (.cons (.and (.cons (.cmp .eq (.sub (.var 0) (.k (.int 0))) (.glo "DOT" (.str "."))) (.cons (.call 2 (.cons (.slc (.var 0) (.so (.k (.int 1))) .no) .nil)) .nil))) .nil)))) .nil))⟩ -- is_step
def c15 : FDef := ⟨["thing", "step"], ["thing"], (.cons (.ret (.and (.cons (.isi (.var 0) .tuple) (.cons (.cmp .le (.blt .len (.var 0)) (.glo "MOST_STEPS" (.int 500))) (.cons (.blt .all (.ofL (.comp (.call 14 (.cons (.var 1) .nil)) (.n 1) (.seq (.var 0)) .no [("step", 1)]))) .nil))))) .nil)⟩ -- is_path
def c16 : FDef := ⟨["thing"], ["thing"], (.cons (.ite (.not (.call 15 (.cons (.var 0) .nil))) (.cons (.raise "NoPath") .nil) .nil) .nil)⟩ -- check_path
def c17 : FDef := ⟨["value", "pair"], ["value"], (.cons (.ite (.not (.isi (.var 0) .tuple)) (.cons (.ret (.var 0)) .nil) .nil) (.cons (.ite (.cmp .eq (.sub (.var 0) (.k (.int 0))) (.glo "REC" (.str "rec"))) (.cons (.ret (.tup (.cons (.glo "REC" (.str "rec")) (.cons (.blt .tuple (.ofL (.comp (.sub (.var 1) (.k (.int 0))) (.n 1) (.seq (.sub (.var 0) (.k (.int 1)))) .no [("pair", 1)]))) .nil)))) .nil) .nil) (.cons (.ite (.cmp .eq (.sub (.var 0) (.k (.int 0))) (.glo "CASE" (.str "case"))) (.cons (.ret (.tup (.cons (.glo "CASE" (.str "case")) (.cons (.sub (.var 0) (.k (.int 1))) .nil)))) .nil) .nil) (.cons (.ite (.cmp .eq (.sub (.var 0) (.k (.int 0))) (.glo "FAULT" (.str "fault"))) (.cons (.ret (.var 0)) .nil) .nil) (.cons (.ret (.ite (.cmp .gt (.blt .len (.sub (.var 0) (.k (.int 1)))) (.k (.int 0))) (.tup (.cons (.glo "CONS" (.str "cons")) .nil)) (.tup (.cons (.glo "NIL" (.str "nil")) .nil)))) .nil)))))⟩ -- raw_head
def c18 : FDef := ⟨["value"], ["value"], (.cons (.exp (.call 13 (.cons (.var 0) .nil))) (.cons (.ret (.call 17 (.cons (.var 0) .nil))) .nil))⟩ -- head_of
def c19 : FDef := ⟨["head", "name"], ["head"], (.cons (.ite (.or (.cons (.not (.isi (.var 0) .tuple)) (.cons (.cmp .isin (.sub (.var 0) (.k (.int 0))) (.tup (.cons (.glo "FAULT" (.str "fault")) (.cons (.glo "NIL" (.str "nil")) .nil)))) .nil))) (.cons (.ret (.tup .nil)) .nil) .nil) (.cons (.ite (.cmp .eq (.sub (.var 0) (.k (.int 0))) (.glo "REC" (.str "rec"))) (.cons (.ret (.blt .tuple (.ofL (.comp (.bin .add (.glo "DOT" (.str ".")) (.var 1)) (.n 1) (.seq (.sub (.var 0) (.k (.int 1)))) .no [("name", 1)])))) .nil) .nil) (.cons (.ret (.ite (.cmp .eq (.sub (.var 0) (.k (.int 0))) (.glo "CASE" (.str "case"))) (.tup (.cons (.glo "WITHIN" (.str "!")) .nil)) (.tup (.cons (.glo "FIRST" (.str "<")) (.cons (.glo "REST" (.str ">")) .nil))))) .nil)))⟩ -- raw_steps
def c20 : FDef := ⟨["value", "step", "pair"], ["value", "step"], (.cons (.ite (.cmp .eq (.var 1) (.glo "WITHIN" (.str "!"))) (.cons (.ret (.sub (.var 0) (.k (.int 2)))) .nil) .nil) (.cons (.ite (.cmp .eq (.var 1) (.glo "FIRST" (.str "<"))) (.cons (.ret (.sub (.sub (.var 0) (.k (.int 1))) (.k (.int 0)))) .nil) .nil) (.cons (.ite (.cmp .ne (.var 1) (.glo "REST" (.str ">"))) (.cons (.ret (.sub (.ofL (.comp (.sub (.var 2) (.k (.int 1))) (.n 2) (.seq (.sub (.var 0) (.k (.int 1)))) (.so (.cmp .eq (.sub (.var 2) (.k (.int 0))) (.slc (.var 1) (.so (.k (.int 1))) .no))) [("pair", 2)])) (.k (.int 0)))) .nil) .nil) (.cons (.ite (.cmp .eq (.sub (.var 0) (.k (.int 0))) (.glo "LIST" (.str "list"))) (.cons (.ret (.tup (.cons (.glo "LIST" (.str "list")) (.cons (.slc (.sub (.var 0) (.k (.int 1))) (.so (.k (.int 1))) .no) .nil)))) .nil) .nil) (.cons (.ret (.ite (.cmp .gt (.blt .len (.sub (.var 0) (.k (.int 1)))) (.k (.int 1))) (.tup (.cons (.glo "BROKEN" (.str "broken")) (.cons (.slc (.sub (.var 0) (.k (.int 1))) (.so (.k (.int 1))) .no) (.cons (.sub (.var 0) (.k (.int 2))) .nil)))) (.sub (.var 0) (.k (.int 2))))) .nil)))))⟩ -- part_by
def c21 : FDef := ⟨["value", "path", "here", "step"], ["value", "path"], (.cons (.asg 2 (.var 0)) (.cons (.for_ (.n 3) (.seq (.var 1)) (.cons (.ite (.cmp .notin (.var 3) (.call 19 (.cons (.call 17 (.cons (.var 2) .nil)) .nil))) (.cons (.ret (.k .non)) .nil) .nil) (.cons (.asg 2 (.call 20 (.cons (.var 2) (.cons (.var 3) .nil)))) .nil))) (.cons (.ret (.var 2)) .nil)))⟩ -- raw_part
def c22 : FDef := ⟨["value", "path"], ["value", "path"], (.cons (.exp (.call 13 (.cons (.var 0) .nil))) (.cons (.exp (.call 16 (.cons (.var 1) .nil))) (.cons (.ret (.call 21 (.cons (.var 0) (.cons (.var 1) .nil)))) .nil)))⟩ -- part_at
def c23 : FDef := ⟨["value", "found", "waiting", "path", "here", "step"], ["value"], (.cons (.exp (.call 13 (.cons (.var 0) .nil))) (.cons (.parO 1 2 (.ofL (.disp .nil)) (.ofL (.disp (.cons (.tup (.cons (.tup .nil) (.cons (.var 0) .nil))) .nil)))) (.cons (.whl (.cmp .gt (.olen 2) (.k (.int 0))) (.cons (.popU (.t2 3 4) 2) (.cons (.app 1 (.var 3)) (.cons (.for_ (.n 5) (.seq (.rev (.call 19 (.cons (.call 17 (.cons (.var 4) .nil)) .nil)))) (.cons (.app 2 (.tup (.cons (.bin .add (.var 3) (.tup (.cons (.var 5) .nil))) (.cons (.call 20 (.cons (.var 4) (.cons (.var 5) .nil))) .nil)))) .nil)) .nil)))) (.cons (.frz 1) (.cons (.ret (.blt .tuple (.var 1))) .nil)))))⟩ -- all_paths
def c24 : FDef := ⟨["thing"], ["thing"], (.cons (.ret (.and (.cons (.isi (.var 0) .tuple) (.cons (.cmp .eq (.blt .len (.var 0)) (.k (.int 2))) (.cons (.call 9 (.cons (.sub (.var 0) (.k (.int 0))) .nil)) (.cons (.call 10 (.cons (.sub (.var 0) (.k (.int 1))) .nil)) .nil)))))) .nil)⟩ -- is_state
def c25 : FDef := ⟨["state"], ["state"], (.cons (.ite (.not (.call 24 (.cons (.var 0) .nil))) (.cons (.raise "NoState") .nil) .nil) .nil)⟩ -- check_state
def c26 : FDef := ⟨["store", "choices"], ["store", "choices"], (.cons (.ite (.not (.call 9 (.cons (.var 0) .nil))) (.cons (.raise "NoStore") .nil) .nil) (.cons (.ite (.not (.call 10 (.cons (.var 1) .nil))) (.cons (.raise "NoChoices") .nil) .nil) (.cons (.ret (.tup (.cons (.var 0) (.cons (.var 1) .nil)))) .nil)))⟩ -- state_of
def c27 : FDef := ⟨["pairs", "name", "thing", "found", "pair"], ["pairs", "name", "thing"], (.cons (.asg 3 (.bin .add (.ofL (.comp (.var 4) (.n 4) (.seq (.var 0)) (.so (.cmp .ne (.sub (.var 4) (.k (.int 0))) (.var 1))) [("pair", 4)])) (.ofL (.disp (.cons (.tup (.cons (.var 1) (.cons (.var 2) .nil))) .nil))))) (.cons (.ret (.blt .tuple (.sortK (.var 3)))) .nil))⟩ -- with_name
def c28 : FDef := ⟨["pairs", "name", "pair"], ["pairs", "name"], (.cons (.ret (.blt .tuple (.ofL (.comp (.var 2) (.n 2) (.seq (.var 0)) (.so (.cmp .ne (.sub (.var 2) (.k (.int 0))) (.var 1))) [("pair", 2)])))) .nil)⟩ -- without_name
def c29 : FDef := ⟨["pairs", "name", "known", "thing"], ["pairs", "name"], (.cons (.for_ (.t2 2 3) (.seq (.var 0)) (.cons (.ite (.cmp .eq (.var 2) (.var 1)) (.cons (.ret (.var 3)) .nil) .nil) .nil)) (.cons (.ret (.k .non)) .nil))⟩ -- under
def c30 : FDef := ⟨["value", "step"], ["value", "step"], (.cons (.ite (.not (.isi (.var 0) .tuple)) (.cons (.ret (.k .non)) .nil) .nil) (.cons (.ite (.and (.cons (.cmp .eq (.sub (.var 0) (.k (.int 0))) (.k (.str "rec"))) (.cons (.cmp .eq (.sub (.var 1) (.k (.int 0))) (.k (.str "."))) .nil))) (.cons (.ret (.call 29 (.cons (.sub (.var 0) (.k (.int 1))) (.cons (.slc (.var 1) (.so (.k (.int 1))) .no) .nil)))) .nil) .nil) (.cons (.ite (.and (.cons (.cmp .eq (.sub (.var 0) (.k (.int 0))) (.k (.str "case"))) (.cons (.cmp .eq (.var 1) (.k (.str "!"))) .nil))) (.cons (.ret (.sub (.var 0) (.k (.int 2)))) .nil) .nil) (.cons (.ite (.and (.cons (.cmp .eq (.sub (.var 0) (.k (.int 0))) (.k (.str "list"))) (.cons (.cmp .gt (.blt .len (.sub (.var 0) (.k (.int 1)))) (.k (.int 0))) (.cons (.cmp .isin (.var 1) (.tup (.cons (.k (.str "<")) (.cons (.k (.str ">")) .nil)))) .nil)))) (.cons (.ret (.ite (.cmp .eq (.var 1) (.k (.str "<"))) (.sub (.sub (.var 0) (.k (.int 1))) (.k (.int 0))) (.tup (.cons (.k (.str "list")) (.cons (.slc (.sub (.var 0) (.k (.int 1))) (.so (.k (.int 1))) .no) .nil))))) .nil) .nil) (.cons (.ret (.k .non)) .nil)))))⟩ -- step_down
def c31 : FDef := ⟨["value", "step", "part"], ["value", "step", "part"], (.cons (.ite (.cmp .eq (.sub (.var 0) (.k (.int 0))) (.k (.str "rec"))) (.cons (.ret (.tup (.cons (.k (.str "rec")) (.cons (.call 27 (.cons (.sub (.var 0) (.k (.int 1))) (.cons (.slc (.var 1) (.so (.k (.int 1))) .no) (.cons (.var 2) .nil)))) .nil)))) .nil) .nil) (.cons (.ite (.cmp .eq (.sub (.var 0) (.k (.int 0))) (.k (.str "case"))) (.cons (.ret (.tup (.cons (.k (.str "case")) (.cons (.sub (.var 0) (.k (.int 1))) (.cons (.var 2) .nil))))) .nil) .nil) (.cons (.ite (.cmp .eq (.var 1) (.k (.str "<"))) (.cons (.ret (.tup (.cons (.k (.str "list")) (.cons (.bin .add (.tup (.cons (.var 2) .nil)) (.slc (.sub (.var 0) (.k (.int 1))) (.so (.k (.int 1))) .no)) .nil)))) .nil) .nil) (.cons (.ite (.or (.cons (.not (.isi (.var 2) .tuple)) (.cons (.cmp .ne (.sub (.var 2) (.k (.int 0))) (.k (.str "list"))) .nil))) (.cons (.ret (.k .non)) .nil) .nil) (.cons (.ret (.tup (.cons (.k (.str "list")) (.cons (.bin .add (.slc (.sub (.var 0) (.k (.int 1))) .no (.so (.k (.int 1)))) (.sub (.var 2) (.k (.int 1)))) .nil)))) .nil)))))⟩ -- step_up
def c32 : FDef := ⟨["value", "path", "part", "way", "step", "whole"], ["value", "path", "part"], (.cons (.own 3 (.disp .nil)) (.cons (.for_ (.n 4) (.seq (.var 1)) (.cons (.app 3 (.var 0)) (.cons (.asg 0 (.call 30 (.cons (.var 0) (.cons (.var 4) .nil)))) (.cons (.ite (.isN (.var 0)) (.cons (.ret (.k .non)) .nil) .nil) .nil)))) (.cons (.frz 3) (.cons (.for_ (.t2 5 4) (.zip (.rev (.var 3)) (.rev (.var 1))) (.cons (.asg 2 (.call 31 (.cons (.var 5) (.cons (.var 4) (.cons (.var 2) .nil))))) (.cons (.ite (.isN (.var 2)) (.cons (.ret (.k .non)) .nil) .nil) .nil))) (.cons (.ret (.ite (.call 8 (.cons (.var 2) .nil)) (.var 2) (.k .non))) .nil)))))⟩ -- part_put
def c33 : FDef := ⟨["value", "path", "other", "found"], ["value", "path", "other"], (.cons (.ite (.or (.cons (.not (.call 8 (.cons (.var 0) .nil))) (.cons (.not (.call 8 (.cons (.var 2) .nil))) .nil))) (.cons (.raise "NoValue") .nil) .nil) (.cons (.exp (.call 16 (.cons (.var 1) .nil))) (.cons (.asg 3 (.call 32 (.cons (.var 0) (.cons (.var 1) (.cons (.var 2) .nil))))) (.cons (.ite (.isN (.var 3)) (.cons (.raise "NoEdit") .nil) .nil) (.cons (.ret (.var 3)) .nil)))))⟩ -- with_part
def c34 : FDef := ⟨["value", "path", "part"], ["value", "path"], (.cons (.ite (.isN (.var 0)) (.cons (.ret (.k .non)) .nil) .nil) (.cons (.asg 2 (.call 21 (.cons (.var 0) (.cons (.var 1) .nil)))) (.cons (.ret (.ite (.and (.cons (.isi (.var 2) .tuple) (.cons (.cmp .eq (.sub (.var 2) (.k (.int 0))) (.k (.str "list"))) .nil))) (.sub (.var 2) (.k (.int 1))) (.k .non))) .nil)))⟩ -- list_at
def c35 : FDef := ⟨["thing"], ["thing"], (.cons (.ite (.or (.cons (.not (.isi (.var 0) .tuple)) (.cons (.cmp .lt (.blt .len (.var 0)) (.k (.int 2))) (.cons (.not (.isi (.sub (.var 0) (.k (.int 0))) .str)) .nil)))) (.cons (.ret (.k (.bl false))) .nil) .nil) (.cons (.ite (.or (.cons (.cmp .ne (.dget "EDIT_SIZES" d_EDIT_SIZES (.sub (.var 0) (.k (.int 0))) 0) (.blt .len (.var 0))) (.cons (.not (.call 2 (.cons (.sub (.var 0) (.k (.int 1))) .nil))) .nil))) (.cons (.ret (.k (.bl false))) .nil) .nil) (.cons (.ret (.or (.cons (.cmp .notin (.sub (.var 0) (.k (.int 0))) (.tup (.cons (.k (.str "part")) (.cons (.k (.str "ahead")) (.cons (.k (.str "cut")) .nil))))) (.cons (.call 15 (.cons (.sub (.var 0) (.k (.int 2))) .nil)) .nil)))) .nil)))⟩ -- has_edit_form
def c36 : FDef := ⟨["store", "edit", "value", "values"], ["store", "edit"], (.cons (.asg 2 (.call 29 (.cons (.var 0) (.cons (.sub (.var 1) (.k (.int 1))) .nil)))) (.cons (.ite (.isN (.var 2)) (.cons (.ret (.k .non)) .nil) .nil) (.cons (.ite (.cmp .eq (.sub (.var 1) (.k (.int 0))) (.k (.str "part"))) (.cons (.ret (.ite (.call 8 (.cons (.sub (.var 1) (.k (.int 3))) .nil)) (.call 32 (.cons (.var 2) (.cons (.sub (.var 1) (.k (.int 2))) (.cons (.sub (.var 1) (.k (.int 3))) .nil)))) (.k .non))) .nil) .nil) (.cons (.asg 3 (.call 34 (.cons (.var 2) (.cons (.sub (.var 1) (.k (.int 2))) .nil)))) (.cons (.ite (.isN (.var 3)) (.cons (.ret (.k .non)) .nil) .nil) (.cons (.ite (.cmp .eq (.sub (.var 1) (.k (.int 0))) (.k (.str "ahead"))) (.cons (.ret (.ite (.call 8 (.cons (.sub (.var 1) (.k (.int 3))) .nil)) (.call 32 (.cons (.var 2) (.cons (.sub (.var 1) (.k (.int 2))) (.cons (.tup (.cons (.k (.str "list")) (.cons (.bin .add (.tup (.cons (.sub (.var 1) (.k (.int 3))) .nil)) (.var 3)) .nil))) .nil)))) (.k .non))) .nil) .nil) (.cons (.ret (.ite (.cmp .gt (.blt .len (.var 3)) (.k (.int 0))) (.call 32 (.cons (.var 2) (.cons (.sub (.var 1) (.k (.int 2))) (.cons (.tup (.cons (.k (.str "list")) (.cons (.slc (.var 3) (.so (.k (.int 1))) .no) .nil))) .nil)))) (.k .non))) .nil)))))))⟩ -- new_value
def c37 : FDef := ⟨["state", "edit", "store", "choices", "pairs", "fewer", "found", "value"], ["state", "edit"], (.cons (.unp (.t2 2 3) (.var 0)) (.cons (.ite (.cmp .isin (.sub (.var 1) (.k (.int 0))) (.tup (.cons (.k (.str "drop")) (.cons (.k (.str "unchoose")) .nil)))) (.cons (.asg 4 (.ite (.cmp .eq (.sub (.var 1) (.k (.int 0))) (.k (.str "drop"))) (.var 2) (.var 3))) (.cons (.ite (.isN (.call 29 (.cons (.var 4) (.cons (.sub (.var 1) (.k (.int 1))) .nil)))) (.cons (.ret (.k .non)) .nil) .nil) (.cons (.asg 5 (.call 28 (.cons (.var 4) (.cons (.sub (.var 1) (.k (.int 1))) .nil)))) (.cons (.ret (.ite (.cmp .eq (.sub (.var 1) (.k (.int 0))) (.k (.str "drop"))) (.tup (.cons (.var 5) (.cons (.var 3) .nil))) (.tup (.cons (.var 2) (.cons (.var 5) .nil))))) .nil)))) .nil) (.cons (.ite (.cmp .eq (.sub (.var 1) (.k (.int 0))) (.k (.str "choose"))) (.cons (.asg 6 (.tup (.cons (.var 2) (.cons (.call 27 (.cons (.var 3) (.cons (.sub (.var 1) (.k (.int 1))) (.cons (.sub (.var 1) (.k (.int 2))) .nil)))) .nil)))) .nil) (.cons (.ite (.cmp .eq (.sub (.var 1) (.k (.int 0))) (.k (.str "put"))) (.cons (.asg 6 (.tup (.cons (.call 27 (.cons (.var 2) (.cons (.sub (.var 1) (.k (.int 1))) (.cons (.sub (.var 1) (.k (.int 2))) .nil)))) (.cons (.var 3) .nil)))) .nil) (.cons (.asg 7 (.call 36 (.cons (.var 2) (.cons (.var 1) .nil)))) (.cons (.asg 6 (.ite (.isN (.var 7)) (.k .non) (.tup (.cons (.call 27 (.cons (.var 2) (.cons (.sub (.var 1) (.k (.int 1))) (.cons (.var 7) .nil)))) (.cons (.var 3) .nil))))) .nil))) .nil)) (.cons (.ret (.ite (.and (.cons (.notN (.var 6)) (.cons (.call 24 (.cons (.var 6) .nil)) .nil))) (.var 6) (.k .non))) .nil))))⟩ -- raw_edited
def c38 : FDef := ⟨["state", "thing"], ["state", "thing"], (.cons (.ret (.ite (.call 35 (.cons (.var 1) .nil)) (.call 37 (.cons (.var 0) (.cons (.var 1) .nil))) (.k .non))) .nil)⟩ -- made_by_edit
def c39 : FDef := ⟨["state", "thing"], ["state", "thing"], (.cons (.exp (.call 25 (.cons (.var 0) .nil))) (.cons (.ret (.notN (.call 38 (.cons (.var 0) (.cons (.var 1) .nil))))) .nil))⟩ -- is_edit
def c40 : FDef := ⟨["state", "edit", "found"], ["state", "edit"], (.cons (.exp (.call 25 (.cons (.var 0) .nil))) (.cons (.asg 2 (.call 38 (.cons (.var 0) (.cons (.var 1) .nil)))) (.cons (.ite (.isN (.var 2)) (.cons (.raise "NoEdit") .nil) .nil) (.cons (.ret (.var 2)) .nil))))⟩ -- edited
def c41 : FDef := ⟨["pairs", "name", "words", "thing"], ["pairs", "name", "words"], (.cons (.asg 3 (.call 29 (.cons (.var 0) (.cons (.var 1) .nil)))) (.cons (.ret (.ite (.isN (.var 3)) (.tup (.cons (.sub (.var 2) (.k (.int 1))) (.cons (.var 1) .nil))) (.tup (.cons (.sub (.var 2) (.k (.int 0))) (.cons (.var 1) (.cons (.var 3) .nil)))))) .nil))⟩ -- name_back
def c42 : FDef := ⟨["state", "edit", "value"], ["state", "edit"], (.cons (.exp (.call 25 (.cons (.var 0) .nil))) (.cons (.ite (.isN (.call 38 (.cons (.var 0) (.cons (.var 1) .nil)))) (.cons (.raise "NoEdit") .nil) .nil) (.cons (.ite (.cmp .isin (.sub (.var 1) (.k (.int 0))) (.tup (.cons (.k (.str "choose")) (.cons (.k (.str "unchoose")) .nil)))) (.cons (.ret (.call 41 (.cons (.sub (.var 0) (.k (.int 1))) (.cons (.sub (.var 1) (.k (.int 1))) (.cons (.tup (.cons (.k (.str "choose")) (.cons (.k (.str "unchoose")) .nil))) .nil))))) .nil) .nil) (.cons (.ite (.cmp .isin (.sub (.var 1) (.k (.int 0))) (.tup (.cons (.k (.str "put")) (.cons (.k (.str "drop")) .nil)))) (.cons (.ret (.call 41 (.cons (.sub (.var 0) (.k (.int 0))) (.cons (.sub (.var 1) (.k (.int 1))) (.cons (.tup (.cons (.k (.str "put")) (.cons (.k (.str "drop")) .nil))) .nil))))) .nil) .nil) (.cons (.asg 2 (.call 29 (.cons (.sub (.var 0) (.k (.int 0))) (.cons (.sub (.var 1) (.k (.int 1))) .nil)))) (.cons (.ite (.cmp .eq (.sub (.var 1) (.k (.int 0))) (.k (.str "part"))) (.cons (.ret (.bin .add (.slc (.var 1) .no (.so (.k (.int 3)))) (.tup (.cons (.call 21 (.cons (.var 2) (.cons (.sub (.var 1) (.k (.int 2))) .nil))) .nil)))) .nil) .nil) (.cons (.ite (.cmp .eq (.sub (.var 1) (.k (.int 0))) (.k (.str "ahead"))) (.cons (.ret (.bin .add (.tup (.cons (.k (.str "cut")) .nil)) (.slc (.var 1) (.so (.k (.int 1))) (.so (.k (.int 3)))))) .nil) .nil) (.cons (.ret (.bin .add (.bin .add (.tup (.cons (.k (.str "ahead")) .nil)) (.slc (.var 1) (.so (.k (.int 1))) (.so (.k (.int 3))))) (.tup (.cons (.sub (.call 34 (.cons (.var 2) (.cons (.sub (.var 1) (.k (.int 2))) .nil))) (.k (.int 0))) .nil)))) .nil))))))))⟩ -- edit_back
def c43 : FDef := ⟨["thing"], ["thing"], (.cons (.ite (.or (.cons (.not (.isi (.var 0) .tuple)) (.cons (.cmp .lt (.blt .len (.var 0)) (.k (.int 2))) (.cons (.not (.isi (.sub (.var 0) (.k (.int 0))) .str)) .nil)))) (.cons (.ret (.k (.bl false))) .nil) .nil) (.cons (.ite (.cmp .eq (.sub (.var 0) (.k (.int 0))) (.glo "GIVEN" (.str "given"))) (.cons (.ret (.and (.cons (.cmp .eq (.blt .len (.var 0)) (.k (.int 3))) (.cons (.call 2 (.cons (.sub (.var 0) (.k (.int 1))) .nil)) (.cons (.call 15 (.cons (.sub (.var 0) (.k (.int 2))) .nil)) .nil))))) .nil) .nil) (.cons (.ite (.cmp .ne (.blt .len (.var 0)) (.k (.int 2))) (.cons (.ret (.k (.bl false))) .nil) .nil) (.cons (.ite (.cmp .eq (.sub (.var 0) (.k (.int 0))) (.glo "SPOT" (.str "spot"))) (.cons (.ret (.call 1 (.cons (.sub (.var 0) (.k (.int 1))) (.cons (.k (.int 0)) (.cons (.glo "MOST_SPOT" (.int 999999)) .nil))))) .nil) .nil) (.cons (.ret (.and (.cons (.cmp .eq (.sub (.var 0) (.k (.int 0))) (.glo "CHOICE" (.str "choice"))) (.cons (.call 2 (.cons (.sub (.var 0) (.k (.int 1))) .nil)) .nil)))) .nil)))))⟩ -- is_item
def c44 : FDef := ⟨["thing"], ["thing"], (.cons (.ite (.not (.call 43 (.cons (.var 0) .nil))) (.cons (.raise "NoItem") .nil) .nil) .nil)⟩ -- check_item
def c45 : FDef := ⟨["pairs", "name", "some", "pair"], ["pairs", "name"], (.cons (.asg 2 (.ofL (.comp (.sub (.var 3) (.k (.int 1))) (.n 3) (.seq (.var 0)) (.so (.cmp .eq (.sub (.var 3) (.k (.int 0))) (.var 1))) [("pair", 3)]))) (.cons (.ret (.ite (.cmp .gt (.blt .len (.var 2)) (.k (.int 0))) (.sub (.var 2) (.k (.int 0))) (.k .non))) .nil))⟩ -- value_by
def c46 : FDef := ⟨["store", "choices", "item", "found", "part"], ["store", "choices", "item"], (.cons (.ite (.cmp .eq (.sub (.var 2) (.k (.int 0))) (.glo "SPOT" (.str "spot"))) (.cons (.ret (.k .non)) .nil) .nil) (.cons (.asg 3 (.call 45 (.cons (.ite (.cmp .eq (.sub (.var 2) (.k (.int 0))) (.glo "GIVEN" (.str "given"))) (.var 0) (.var 1)) (.cons (.sub (.var 2) (.k (.int 1))) .nil)))) (.cons (.ite (.isN (.var 3)) (.cons (.ret (.tup (.cons (.glo "LACKING" (.str "lacking")) .nil))) .nil) .nil) (.cons (.ite (.cmp .eq (.sub (.var 2) (.k (.int 0))) (.glo "CHOICE" (.str "choice"))) (.cons (.ret (.var 3)) .nil) .nil) (.cons (.asg 4 (.call 21 (.cons (.var 3) (.cons (.sub (.var 2) (.k (.int 2))) .nil)))) (.cons (.ret (.ite (.isN (.var 4)) (.k .non) (.call 17 (.cons (.var 4) .nil)))) .nil))))))⟩ -- raw_told
def c47 : FDef := ⟨["store", "choices", "item"], ["store", "choices", "item"], (.cons (.exp (.call 11 (.cons (.var 0) .nil))) (.cons (.exp (.call 12 (.cons (.var 1) .nil))) (.cons (.exp (.call 44 (.cons (.var 2) .nil))) (.cons (.ret (.call 46 (.cons (.var 0) (.cons (.var 1) (.cons (.var 2) .nil))))) .nil))))⟩ -- told_head
def c48 : FDef := ⟨["script", "cells", "cell"], ["script"], (.cons (.alc 1 (.comp (.bin .mod (.blt .int (.blt .abs (.blt .int (.var 2)))) (.bin .pow (.k (.int 10)) (.k (.int 36)))) (.n 2) (.seq (.slc (.var 0) .no (.so (.k (.int 63))))) .no [("cell", 2)])) (.cons (.retA (.disp (.cons (.var 1) (.cons (.k (.int 0)) (.cons (.k (.int 0)) (.cons (.bin .add (.k (.int 1097)) (.bin .mul (.k (.int 653)) (.blt .len (.var 1)))) (.cons (.k (.int 0)) .nil))))))) .nil))⟩ -- _law_hand
def c49 : FDef := ⟨["hand", "many", "number", "cell", "digit"], ["hand", "many"], (.cons (.ite (.and (.cons (.cmp .eq (.sub (.var 0) (.k (.int 2))) (.k (.int 0))) (.cons (.cmp .lt (.sub (.var 0) (.k (.int 1))) (.blt .len (.sub (.var 0) (.k (.int 0))))) .nil))) (.cons (.asg 3 (.sub (.sub (.var 0) (.k (.int 0))) (.sub (.var 0) (.k (.int 1))))) (.cons (.sidx (.var 0) (.k (.int 1)) (.bin .add (.sub (.var 0) (.k (.int 1))) (.k (.int 1)))) (.cons (.sidx (.var 0) (.k (.int 3)) (.bin .mod (.blt .int (.bin .add (.bin .add (.bin .mul (.sub (.var 0) (.k (.int 3))) (.k (.int 69621))) (.bin .mul (.var 3) (.k (.int 48271)))) (.k (.int 17)))) (.k (.int 2147483629)))) (.cons (.ite (.cmp .ge (.var 3) (.bin .pow (.k (.int 10)) (.k (.int 18)))) (.cons (.sidx (.var 0) (.k (.int 2)) (.var 3)) .nil) .nil) .nil)))) .nil) (.cons (.ite (.cmp .gt (.sub (.var 0) (.k (.int 2))) (.k (.int 0))) (.cons (.asg 4 (.bin .mod (.blt .int (.sub (.var 0) (.k (.int 2)))) (.var 1))) (.cons (.sidx (.var 0) (.k (.int 2)) (.bin .fdiv (.sub (.var 0) (.k (.int 2))) (.var 1))) (.cons (.ret (.var 4)) .nil))) .nil) (.cons (.sidx (.var 0) (.k (.int 4)) (.bin .add (.sub (.var 0) (.k (.int 4))) (.k (.int 1)))) (.cons (.asg 2 (.bin .mod (.blt .int (.bin .mul (.blt .int (.bin .add (.sub (.var 0) (.k (.int 3))) (.bin .mul (.k (.int 7919)) (.sub (.var 0) (.k (.int 4)))))) (.k (.int 40692)))) (.k (.int 2147483647)))) (.cons (.asg 2 (.bin .mod (.blt .int (.bin .mul (.var 2) (.bin .add (.bin .fdiv (.var 2) (.k (.int 1009))) (.k (.int 69621))))) (.k (.int 2147483647)))) (.cons (.asg 2 (.bin .mod (.blt .int (.bin .mul (.var 2) (.bin .add (.bin .fdiv (.var 2) (.k (.int 2003))) (.k (.int 40014))))) (.k (.int 2147483563)))) (.cons (.ret (.bin .mod (.blt .int (.bin .fdiv (.var 2) (.k (.int 16)))) (.var 1))) .nil)))))))⟩ -- _law_draw
def c50 : FDef := ⟨["hand", "some"], ["hand", "some"], (.cons (.ret (.sub (.var 1) (.call 49 (.cons (.var 0) (.cons (.blt .len (.var 1)) .nil))))) .nil)⟩ -- _law_any
def c51 : FDef := ⟨["hand", "depth", "kind", "names", "item", "name"], ["hand", "depth"], (.cons (.asg 2 (.call 49 (.cons (.var 0) (.cons (.k (.int 8)) .nil)))) (.cons (.ite (.or (.cons (.cmp .eq (.var 1) (.k (.int 0))) (.cons (.cmp .lt (.var 2) (.k (.int 4))) .nil))) (.cons (.ret (.call 50 (.cons (.var 0) (.cons (.ofL (.disp (.cons (.k (.int 0)) (.cons (.k (.int 1)) (.cons (.k (.int 2)) (.cons (.k (.int 5)) (.cons (.neg (.k (.int 4))) (.cons (.k (.bl true)) (.cons (.k (.bl false)) (.cons (.k (.str "word")) (.cons (.k (.str "")) (.cons (.bin .pow (.k (.int 10)) (.k (.int 17))) .nil)))))))))))) .nil)))) .nil) .nil) (.cons (.ite (.cmp .eq (.var 2) (.k (.int 4))) (.cons (.asg 3 (.slc (.tup (.cons (.k (.str "m")) (.cons (.k (.str "n")) .nil))) (.so (.call 49 (.cons (.var 0) (.cons (.k (.int 2)) .nil)))) .no)) (.cons (.ret (.tup (.cons (.k (.str "rec")) (.cons (.blt .tuple (.ofL (.comp (.tup (.cons (.var 5) (.cons (.call 51 (.cons (.var 0) (.cons (.bin .sub (.var 1) (.k (.int 1))) .nil))) .nil))) (.n 5) (.seq (.var 3)) .no [("name", 5)]))) .nil)))) .nil)) .nil) (.cons (.ite (.cmp .eq (.var 2) (.k (.int 5))) (.cons (.ret (.tup (.cons (.k (.str "case")) (.cons (.call 50 (.cons (.var 0) (.cons (.ofL (.disp (.cons (.k (.str "left")) (.cons (.k (.str "right")) .nil)))) .nil))) (.cons (.call 51 (.cons (.var 0) (.cons (.bin .sub (.var 1) (.k (.int 1))) .nil))) .nil))))) .nil) .nil) (.cons (.ret (.tup (.cons (.k (.str "list")) (.cons (.blt .tuple (.ofL (.comp (.call 51 (.cons (.var 0) (.cons (.bin .sub (.var 1) (.k (.int 1))) .nil))) (.n 4) (.range (.call 49 (.cons (.var 0) (.cons (.k (.int 4)) .nil)))) .no [("item", 4)]))) .nil)))) .nil)))))⟩ -- _law_value
def c52 : FDef := ⟨["hand", "found", "name"], ["hand"], (.cons (.own 1 (.disp .nil)) (.cons (.for_ (.n 2) (.seq (.tup (.cons (.k (.str "a")) (.cons (.k (.str "b")) (.cons (.k (.str "c")) (.cons (.k (.str "d")) .nil)))))) (.cons (.ite (.cmp .gt (.call 49 (.cons (.var 0) (.cons (.k (.int 5)) .nil))) (.k (.int 0))) (.cons (.app 1 (.tup (.cons (.var 2) (.cons (.call 51 (.cons (.var 0) (.cons (.k (.int 2)) .nil))) .nil)))) .nil) .nil) .nil)) (.cons (.frz 1) (.cons (.ret (.blt .tuple (.var 1))) .nil))))⟩ -- _law_store
def c53 : FDef := ⟨["hand", "found", "name"], ["hand"], (.cons (.own 1 (.disp .nil)) (.cons (.for_ (.n 2) (.seq (.tup (.cons (.k (.str "p")) (.cons (.k (.str "q")) .nil)))) (.cons (.ite (.cmp .gt (.call 49 (.cons (.var 0) (.cons (.k (.int 4)) .nil))) (.k (.int 0))) (.cons (.app 1 (.tup (.cons (.var 2) (.cons (.call 49 (.cons (.var 0) (.cons (.k (.int 5)) .nil))) .nil)))) .nil) .nil) .nil)) (.cons (.frz 1) (.cons (.ret (.blt .tuple (.var 1))) .nil))))⟩ -- _law_choices
def c54 : FDef := ⟨["value", "path", "step", "some", "name", "one"], ["value", "path"], (.cons (.for_ (.n 2) (.seq (.var 1)) (.cons (.ite (.not (.isi (.var 0) .tuple)) (.cons (.ret (.k .non)) .nil) .nil) (.cons (.ite (.cmp .eq (.sub (.var 0) (.k (.int 0))) (.k (.str "rec"))) (.cons (.asg 3 (.ofL (.comp (.var 5) (.t2 4 5) (.seq (.sub (.var 0) (.k (.int 1)))) (.so (.cmp .eq (.var 2) (.bin .add (.k (.str ".")) (.var 4)))) [("name", 4), ("one", 5)]))) .nil) (.cons (.ite (.cmp .eq (.sub (.var 0) (.k (.int 0))) (.k (.str "case"))) (.cons (.asg 3 (.ite (.cmp .eq (.var 2) (.k (.str "!"))) (.ofL (.disp (.cons (.sub (.var 0) (.k (.int 2))) .nil))) (.ofL (.disp .nil)))) .nil) (.cons (.asg 3 (.ite (.cmp .eq (.blt .len (.sub (.var 0) (.k (.int 1)))) (.k (.int 0))) (.ofL (.disp .nil)) (.ite (.cmp .eq (.var 2) (.k (.str "<"))) (.ofL (.disp (.cons (.sub (.sub (.var 0) (.k (.int 1))) (.k (.int 0))) .nil))) (.ofL (.disp .nil))))) (.cons (.ite (.and (.cons (.cmp .eq (.var 2) (.k (.str ">"))) (.cons (.cmp .gt (.blt .len (.sub (.var 0) (.k (.int 1)))) (.k (.int 0))) .nil))) (.cons (.asg 3 (.ofL (.disp (.cons (.tup (.cons (.k (.str "list")) (.cons (.slc (.sub (.var 0) (.k (.int 1))) (.so (.k (.int 1))) .no) .nil))) .nil)))) .nil) .nil) .nil))) .nil)) (.cons (.ite (.cmp .eq (.blt .len (.var 3)) (.k (.int 0))) (.cons (.ret (.k .non)) .nil) .nil) (.cons (.asg 0 (.sub (.var 3) (.k (.int 0)))) .nil))))) (.cons (.ret (.var 0)) .nil))⟩ -- _law_part
def c55 : FDef := ⟨["value", "found", "name", "one", "path"], ["value"], (.cons (.ite (.not (.isi (.var 0) .tuple)) (.cons (.ret (.ofL (.disp (.cons (.tup .nil) .nil)))) .nil) .nil) (.cons (.asg 1 (.ofL (.disp (.cons (.tup .nil) .nil)))) (.cons (.ite (.cmp .eq (.sub (.var 0) (.k (.int 0))) (.k (.str "rec"))) (.cons (.for_ (.t2 2 3) (.seq (.sub (.var 0) (.k (.int 1)))) (.cons (.asg 1 (.bin .add (.var 1) (.ofL (.comp (.bin .add (.tup (.cons (.bin .add (.k (.str ".")) (.var 2)) .nil)) (.var 4)) (.n 4) (.seq (.call 55 (.cons (.var 3) .nil))) .no [("path", 4)])))) .nil)) .nil) (.cons (.ite (.cmp .eq (.sub (.var 0) (.k (.int 0))) (.k (.str "case"))) (.cons (.asg 1 (.bin .add (.var 1) (.ofL (.comp (.bin .add (.tup (.cons (.k (.str "!")) .nil)) (.var 4)) (.n 4) (.seq (.call 55 (.cons (.sub (.var 0) (.k (.int 2))) .nil))) .no [("path", 4)])))) .nil) (.cons (.ite (.cmp .gt (.blt .len (.sub (.var 0) (.k (.int 1)))) (.k (.int 0))) (.cons (.asg 1 (.bin .add (.var 1) (.ofL (.comp (.bin .add (.tup (.cons (.k (.str "<")) .nil)) (.var 4)) (.n 4) (.seq (.call 55 (.cons (.sub (.sub (.var 0) (.k (.int 1))) (.k (.int 0))) .nil))) .no [("path", 4)])))) (.cons (.asg 1 (.bin .add (.var 1) (.ofL (.comp (.bin .add (.tup (.cons (.k (.str ">")) .nil)) (.var 4)) (.n 4) (.seq (.call 55 (.cons (.tup (.cons (.k (.str "list")) (.cons (.slc (.sub (.var 0) (.k (.int 1))) (.so (.k (.int 1))) .no) .nil))) .nil))) .no [("path", 4)])))) .nil)) .nil) .nil)) .nil)) (.cons (.ret (.var 1)) .nil))))⟩ -- _law_paths
def c56 : FDef := ⟨["value", "path", "other", "step", "inner", "is_list", "name", "one"], ["value", "path", "other"], (.cons (.ite (.cmp .eq (.var 1) (.tup .nil)) (.cons (.ret (.var 2)) .nil) .nil) (.cons (.parO 3 4 (.sub (.var 1) (.k (.int 0))) (.call 56 (.cons (.call 54 (.cons (.var 0) (.cons (.slc (.var 1) .no (.so (.k (.int 1)))) .nil))) (.cons (.slc (.var 1) (.so (.k (.int 1))) .no) (.cons (.var 2) .nil))))) (.cons (.ite (.isN (.var 4)) (.cons (.ret (.k .non)) .nil) .nil) (.cons (.ite (.cmp .eq (.var 3) (.k (.str "!"))) (.cons (.ret (.tup (.cons (.k (.str "case")) (.cons (.sub (.var 0) (.k (.int 1))) (.cons (.var 4) .nil))))) .nil) .nil) (.cons (.ite (.cmp .eq (.var 3) (.k (.str "<"))) (.cons (.ret (.tup (.cons (.k (.str "list")) (.cons (.bin .add (.tup (.cons (.var 4) .nil)) (.slc (.sub (.var 0) (.k (.int 1))) (.so (.k (.int 1))) .no)) .nil)))) .nil) .nil) (.cons (.ite (.cmp .eq (.var 3) (.k (.str ">"))) (.cons (.asg 5 (.and (.cons (.isi (.var 4) .tuple) (.cons (.cmp .eq (.sub (.var 4) (.k (.int 0))) (.k (.str "list"))) .nil)))) (.cons (.ret (.ite (.var 5) (.tup (.cons (.k (.str "list")) (.cons (.bin .add (.slc (.sub (.var 0) (.k (.int 1))) .no (.so (.k (.int 1)))) (.sub (.var 4) (.k (.int 1)))) .nil))) (.k .non))) .nil)) .nil) (.cons (.ret (.tup (.cons (.k (.str "rec")) (.cons (.blt .tuple (.ofL (.comp (.tup (.cons (.var 6) (.cons (.ite (.cmp .eq (.var 3) (.bin .add (.k (.str ".")) (.var 6))) (.var 4) (.var 7)) .nil))) (.t2 6 7) (.seq (.sub (.var 0) (.k (.int 1)))) .no [("name", 6), ("one", 7)]))) .nil)))) .nil)))))))⟩ -- _law_with
def c57 : FDef := ⟨["pairs", "name", "some", "own", "one"], ["pairs", "name"], (.cons (.asg 2 (.ofL (.comp (.var 4) (.t2 3 4) (.seq (.var 0)) (.so (.cmp .eq (.var 3) (.var 1))) [("own", 3), ("one", 4)]))) (.cons (.ret (.ite (.cmp .gt (.blt .len (.var 2)) (.k (.int 0))) (.sub (.var 2) (.k (.int 0))) (.k .non))) .nil))⟩ -- _law_found
def c58 : FDef := ⟨["pairs", "name", "one", "rest", "names", "pair", "own"], ["pairs", "name", "one"], (.cons (.asg 3 (.ofL (.comp (.var 5) (.n 5) (.seq (.var 0)) (.so (.cmp .ne (.sub (.var 5) (.k (.int 0))) (.var 1))) [("pair", 5)]))) (.cons (.asg 4 (.sortL (.bin .add (.ofL (.comp (.sub (.var 5) (.k (.int 0))) (.n 5) (.seq (.var 3)) .no [("pair", 5)])) (.ite (.isN (.var 2)) (.ofL (.disp .nil)) (.ofL (.disp (.cons (.var 1) .nil))))))) (.cons (.ret (.blt .tuple (.ofL (.comp (.tup (.cons (.var 6) (.cons (.ite (.cmp .eq (.var 6) (.var 1)) (.var 2) (.call 57 (.cons (.var 0) (.cons (.var 6) .nil)))) .nil))) (.n 6) (.seq (.var 4)) .no [("own", 6)])))) .nil)))⟩ -- _law_set
def c59 : FDef := ⟨["state", "edit", "store", "choices", "word", "name", "here", "there", "is_list", "other", "later"], ["state", "edit"], (.cons (.unp (.t2 2 3) (.var 0)) (.cons (.parO 4 5 (.sub (.var 1) (.k (.int 0))) (.sub (.var 1) (.k (.int 1)))) (.cons (.ite (.cmp .isin (.var 4) (.tup (.cons (.k (.str "choose")) (.cons (.k (.str "unchoose")) .nil)))) (.cons (.ite (.and (.cons (.cmp .eq (.var 4) (.k (.str "unchoose"))) (.cons (.isN (.call 57 (.cons (.var 3) (.cons (.var 5) .nil)))) .nil))) (.cons (.ret (.k .non)) .nil) .nil) (.cons (.ret (.tup (.cons (.var 2) (.cons (.call 58 (.cons (.var 3) (.cons (.var 5) (.cons (.ite (.cmp .eq (.var 4) (.k (.str "choose"))) (.sub (.var 1) (.k (.int 2))) (.k .non)) .nil)))) .nil)))) .nil)) .nil) (.cons (.asg 6 (.call 57 (.cons (.var 2) (.cons (.var 5) .nil)))) (.cons (.ite (.cmp .eq (.var 4) (.k (.str "put"))) (.cons (.ret (.tup (.cons (.call 58 (.cons (.var 2) (.cons (.var 5) (.cons (.sub (.var 1) (.k (.int 2))) .nil)))) (.cons (.var 3) .nil)))) .nil) .nil) (.cons (.ite (.isN (.var 6)) (.cons (.ret (.k .non)) .nil) .nil) (.cons (.ite (.cmp .eq (.var 4) (.k (.str "drop"))) (.cons (.ret (.tup (.cons (.call 58 (.cons (.var 2) (.cons (.var 5) (.cons (.k .non) .nil)))) (.cons (.var 3) .nil)))) .nil) .nil) (.cons (.asg 7 (.call 54 (.cons (.var 6) (.cons (.sub (.var 1) (.k (.int 2))) .nil)))) (.cons (.asg 8 (.and (.cons (.isi (.var 7) .tuple) (.cons (.cmp .eq (.sub (.var 7) (.k (.int 0))) (.k (.str "list"))) .nil)))) (.cons (.ite (.or (.cons (.isN (.var 7)) (.cons (.and (.cons (.cmp .ne (.var 4) (.k (.str "part"))) (.cons (.not (.var 8)) .nil))) (.cons (.and (.cons (.cmp .eq (.var 4) (.k (.str "cut"))) (.cons (.cmp .eq (.blt .len (.sub (.var 7) (.k (.int 1)))) (.k (.int 0))) .nil))) .nil)))) (.cons (.ret (.k .non)) .nil) .nil) (.cons (.asg 9 (.sub (.var 1) (.neg (.k (.int 1))))) (.cons (.ite (.cmp .ne (.var 4) (.k (.str "part"))) (.cons (.asg 9 (.tup (.cons (.k (.str "list")) (.cons (.ite (.cmp .eq (.var 4) (.k (.str "ahead"))) (.bin .add (.tup (.cons (.sub (.var 1) (.k (.int 3))) .nil)) (.sub (.var 7) (.k (.int 1)))) (.slc (.sub (.var 7) (.k (.int 1))) (.so (.k (.int 1))) .no)) .nil)))) .nil) .nil) (.cons (.asg 10 (.call 56 (.cons (.var 6) (.cons (.sub (.var 1) (.k (.int 2))) (.cons (.var 9) .nil))))) (.cons (.ret (.ite (.isN (.var 10)) (.k .non) (.tup (.cons (.call 58 (.cons (.var 2) (.cons (.var 5) (.cons (.var 10) .nil)))) (.cons (.var 3) .nil))))) .nil))))))))))))))⟩ -- _law_edited
def c60 : FDef := ⟨["state", "edit", "store", "choices", "word", "name", "pairs", "here", "there"], ["state", "edit"], (.cons (.unp (.t2 2 3) (.var 0)) (.cons (.parO 4 5 (.sub (.var 1) (.k (.int 0))) (.sub (.var 1) (.k (.int 1)))) (.cons (.asg 6 (.ite (.cmp .isin (.var 4) (.tup (.cons (.k (.str "choose")) (.cons (.k (.str "unchoose")) .nil)))) (.var 3) (.var 2))) (.cons (.asg 7 (.call 57 (.cons (.var 6) (.cons (.var 5) .nil)))) (.cons (.ite (.cmp .isin (.var 4) (.tup (.cons (.k (.str "choose")) (.cons (.k (.str "unchoose")) .nil)))) (.cons (.ret (.ite (.isN (.var 7)) (.tup (.cons (.k (.str "unchoose")) (.cons (.var 5) .nil))) (.tup (.cons (.k (.str "choose")) (.cons (.var 5) (.cons (.var 7) .nil)))))) .nil) .nil) (.cons (.ite (.cmp .isin (.var 4) (.tup (.cons (.k (.str "put")) (.cons (.k (.str "drop")) .nil)))) (.cons (.ret (.ite (.isN (.var 7)) (.tup (.cons (.k (.str "drop")) (.cons (.var 5) .nil))) (.tup (.cons (.k (.str "put")) (.cons (.var 5) (.cons (.var 7) .nil)))))) .nil) .nil) (.cons (.asg 8 (.call 54 (.cons (.var 7) (.cons (.sub (.var 1) (.k (.int 2))) .nil)))) (.cons (.ite (.cmp .eq (.var 4) (.k (.str "part"))) (.cons (.ret (.tup (.cons (.k (.str "part")) (.cons (.var 5) (.cons (.sub (.var 1) (.k (.int 2))) (.cons (.var 8) .nil)))))) .nil) .nil) (.cons (.ret (.ite (.cmp .eq (.var 4) (.k (.str "ahead"))) (.tup (.cons (.k (.str "cut")) (.cons (.var 5) (.cons (.sub (.var 1) (.k (.int 2))) .nil)))) (.tup (.cons (.k (.str "ahead")) (.cons (.var 5) (.cons (.sub (.var 1) (.k (.int 2))) (.cons (.sub (.sub (.var 8) (.k (.int 1))) (.k (.int 0))) .nil))))))) .nil)))))))))⟩ -- _law_back
def c61 : FDef := ⟨["hand", "state", "kind", "names", "name", "value", "path", "lists", "one"], ["hand", "state"], (.cons (.parO 2 3 (.call 49 (.cons (.var 0) (.cons (.k (.int 8)) .nil))) (.ofL (.comp (.var 4) (.t2 4 5) (.seq (.sub (.var 1) (.k (.int 0)))) .no [("name", 4), ("value", 5)]))) (.cons (.frz 3) (.cons (.ite (.or (.cons (.cmp .lt (.var 2) (.k (.int 2))) (.cons (.cmp .eq (.blt .len (.var 3)) (.k (.int 0))) (.cons (.and (.cons (.cmp .eq (.var 2) (.k (.int 2))) (.cons (.cmp .lt (.blt .len (.var 3)) (.k (.int 2))) .nil))) .nil)))) (.cons (.ret (.tup (.cons (.k (.str "put")) (.cons (.call 50 (.cons (.var 0) (.cons (.ofL (.disp (.cons (.k (.str "a")) (.cons (.k (.str "b")) (.cons (.k (.str "c")) (.cons (.k (.str "e")) .nil)))))) .nil))) (.cons (.call 51 (.cons (.var 0) (.cons (.k (.int 2)) .nil))) .nil))))) .nil) .nil) (.cons (.asg 4 (.call 50 (.cons (.var 0) (.cons (.var 3) .nil)))) (.cons (.ite (.cmp .eq (.var 2) (.k (.int 2))) (.cons (.ret (.tup (.cons (.k (.str "drop")) (.cons (.ite (.cmp .gt (.call 49 (.cons (.var 0) (.cons (.k (.int 5)) .nil))) (.k (.int 0))) (.var 4) (.k (.str "z"))) .nil)))) .nil) .nil) (.cons (.ite (.cmp .eq (.var 2) (.k (.int 3))) (.cons (.ret (.tup (.cons (.k (.str "choose")) (.cons (.call 50 (.cons (.var 0) (.cons (.ofL (.disp (.cons (.k (.str "p")) (.cons (.k (.str "q")) .nil)))) .nil))) (.cons (.call 49 (.cons (.var 0) (.cons (.k (.int 5)) .nil))) .nil))))) .nil) .nil) (.cons (.ite (.and (.cons (.cmp .eq (.var 2) (.k (.int 4))) (.cons (.cmp .eq (.call 49 (.cons (.var 0) (.cons (.k (.int 2)) .nil))) (.k (.int 0))) .nil))) (.cons (.ret (.tup (.cons (.k (.str "unchoose")) (.cons (.call 50 (.cons (.var 0) (.cons (.ofL (.disp (.cons (.k (.str "p")) (.cons (.k (.str "q")) .nil)))) .nil))) .nil)))) .nil) .nil) (.cons (.asg 5 (.call 57 (.cons (.sub (.var 1) (.k (.int 0))) (.cons (.var 4) .nil)))) (.cons (.asg 6 (.call 50 (.cons (.var 0) (.cons (.call 55 (.cons (.var 5) .nil)) .nil)))) (.cons (.ite (.cmp .lt (.var 2) (.k (.int 6))) (.cons (.ret (.tup (.cons (.k (.str "part")) (.cons (.var 4) (.cons (.var 6) (.cons (.call 51 (.cons (.var 0) (.cons (.k (.int 1)) .nil))) .nil)))))) .nil) .nil) (.cons (.asg 7 (.ofL (.comp (.var 8) (.n 8) (.seq (.call 55 (.cons (.var 5) .nil))) (.so (.isi (.call 54 (.cons (.var 5) (.cons (.var 8) .nil))) .tuple)) [("one", 8)]))) (.cons (.asg 7 (.ofL (.comp (.var 8) (.n 8) (.seq (.var 7)) (.so (.cmp .eq (.sub (.call 54 (.cons (.var 5) (.cons (.var 8) .nil))) (.k (.int 0))) (.k (.str "list")))) [("one", 8)]))) (.cons (.asg 6 (.ite (.cmp .gt (.blt .len (.var 7)) (.k (.int 0))) (.call 50 (.cons (.var 0) (.cons (.var 7) .nil))) (.var 6))) (.cons (.ret (.ite (.cmp .eq (.var 2) (.k (.int 6))) (.tup (.cons (.k (.str "ahead")) (.cons (.var 4) (.cons (.var 6) (.cons (.call 51 (.cons (.var 0) (.cons (.k (.int 1)) .nil))) .nil))))) (.tup (.cons (.k (.str "cut")) (.cons (.var 4) (.cons (.var 6) .nil)))))) .nil))))))))))))))⟩ -- _law_edit
def c62 : FDef := ⟨["hand", "state", "some", "name", "value"], ["hand", "state"], (.cons (.asg 2 (.ofL (.disp (.cons (.k .non) (.cons (.tup .nil) (.cons (.k (.str "?")) (.cons (.tup (.cons (.k (.str "put")) .nil)) (.cons (.tup (.cons (.k (.str "put")) (.cons (.k (.str "A")) (.cons (.k (.int 1)) .nil)))) (.cons (.tup (.cons (.k (.str "put")) (.cons (.k (.str "a")) (.cons (.tup (.cons (.k (.str "fault")) (.cons (.k (.str "x")) .nil))) .nil)))) (.cons (.ofL (.disp (.cons (.k (.str "drop")) (.cons (.k (.str "a")) .nil)))) (.cons (.tup (.cons (.k (.str "drop")) (.cons (.k (.str "zz")) .nil))) .nil))))))))))) (.cons (.asg 2 (.bin .add (.var 2) (.ofL (.disp (.cons (.tup (.cons (.k (.str "cut")) (.cons (.k (.str "a")) .nil))) (.cons (.tup (.cons (.k (.str "part")) (.cons (.k (.str "zz")) (.cons (.tup .nil) (.cons (.k (.int 1)) .nil))))) (.cons (.tup (.cons (.k (.str "choose")) (.cons (.k (.str "p")) (.cons (.neg (.k (.int 1))) .nil)))) (.cons (.tup (.cons (.k (.str "choose")) (.cons (.k (.str "p")) (.cons (.k (.bl true)) .nil)))) .nil)))))))) (.cons (.asg 2 (.bin .add (.var 2) (.ofL (.disp (.cons (.tup (.cons (.k (.str "unchoose")) (.cons (.k (.str "zz")) .nil))) (.cons (.tup (.cons (.k (.str "ahead")) (.cons (.k (.str "zz")) (.cons (.tup .nil) (.cons (.k (.int 1)) .nil))))) .nil)))))) (.cons (.asg 2 (.bin .add (.var 2) (.ofL (.comp (.tup (.cons (.k (.str "part")) (.cons (.var 3) (.cons (.tup (.cons (.k (.str ".none")) .nil)) (.cons (.k (.int 1)) .nil))))) (.t2 3 4) (.seq (.sub (.var 1) (.k (.int 0)))) .no [("name", 3), ("value", 4)])))) (.cons (.ret (.call 50 (.cons (.var 0) (.cons (.bin .add (.var 2) (.ofL (.disp (.cons (.tup (.cons (.k (.str "choose")) (.cons (.k (.str "")) (.cons (.k (.int 1)) .nil)))) (.cons (.tup (.cons (.k (.str "put")) (.cons (.k (.str "a")) (.cons (.k .non) .nil)))) (.cons (.tup (.cons (.k (.str "part")) (.cons (.k (.str "a")) (.cons (.tup (.cons (.k (.str "?")) .nil)) (.cons (.k (.int 1)) .nil))))) (.cons (.tup (.cons (.k (.int 1)) (.cons (.k (.int 2)) .nil))) (.cons .emp .nil)))))))) .nil)))) .nil)))))⟩ -- _law_bad_edit
def c63 : FDef := ⟨["hand", "value", "paths", "path", "other", "later"], ["hand", "value"], (.cons (.asg 2 (.call 55 (.cons (.var 1) .nil))) (.cons (.ite (.or (.cons (.cmp .ne (.blt .list (.call 23 (.cons (.var 1) .nil))) (.var 2)) (.cons (.notB true (.call 8 (.cons (.var 1) .nil))) .nil))) (.cons (.ret (.k (.bl false))) .nil) .nil) (.cons (.for_ (.n 3) (.seq (.slc (.var 2) .no (.so (.k (.int 12))))) (.cons (.ite (.cmp .ne (.call 22 (.cons (.var 1) (.cons (.var 3) .nil))) (.call 54 (.cons (.var 1) (.cons (.var 3) .nil)))) (.cons (.ret (.k (.bl false))) .nil) .nil) .nil)) (.cons (.parO 3 4 (.call 50 (.cons (.var 0) (.cons (.var 2) .nil))) (.call 51 (.cons (.var 0) (.cons (.k (.int 1)) .nil)))) (.cons (.asg 5 (.call 56 (.cons (.var 1) (.cons (.var 3) (.cons (.var 4) .nil))))) (.cons (.ite (.isN (.var 5)) (.cons (.ret (.cmp .eq (.word (.call 33 (.cons (.var 1) (.cons (.var 3) (.cons (.var 4) .nil))))) (.k (.str "edit")))) .nil) .nil) (.cons (.ite (.or (.cons (.cmp .ne (.call 33 (.cons (.var 1) (.cons (.var 3) (.cons (.var 4) .nil)))) (.var 5)) (.cons (.cmp .ne (.call 22 (.cons (.var 5) (.cons (.var 3) .nil))) (.var 4)) .nil))) (.cons (.ret (.k (.bl false))) .nil) .nil) (.cons (.ret (.cmp .eq (.word (.call 33 (.cons (.var 1) (.cons (.bin .add (.var 3) (.tup (.cons (.k (.str ".none")) .nil))) (.cons (.var 4) .nil))))) (.k (.str "edit")))) .nil))))))))⟩ -- _law_are_paths_right
def c64 : FDef := ⟨["state", "items", "store", "choices", "name", "path", "number", "value", "due"], ["state", "items"], (.cons (.unp (.t2 2 3) (.var 0)) (.cons (.for_ (.t2 4 5) (.seq (.var 1)) (.cons (.asg 7 (.call 57 (.cons (.var 2) (.cons (.var 4) .nil)))) (.cons (.asg 8 (.ite (.isN (.var 7)) (.tup (.cons (.k (.str "lacking")) .nil)) (.k .non))) (.cons (.ite (.and (.cons (.notN (.var 7)) (.cons (.notN (.call 54 (.cons (.var 7) (.cons (.var 5) .nil)))) .nil))) (.cons (.asg 8 (.call 18 (.cons (.call 54 (.cons (.var 7) (.cons (.var 5) .nil))) .nil))) .nil) .nil) (.cons (.ite (.cmp .ne (.call 47 (.cons (.var 2) (.cons (.var 3) (.cons (.tup (.cons (.k (.str "given")) (.cons (.var 4) (.cons (.var 5) .nil)))) .nil)))) (.var 8)) (.cons (.ret (.k (.bl false))) .nil) .nil) .nil))))) (.cons (.asg 6 (.call 57 (.cons (.var 3) (.cons (.k (.str "p")) .nil)))) (.cons (.ret (.cmp .eq (.call 47 (.cons (.var 2) (.cons (.var 3) (.cons (.tup (.cons (.k (.str "choice")) (.cons (.k (.str "p")) .nil))) .nil)))) (.ite (.isN (.var 6)) (.tup (.cons (.k (.str "lacking")) .nil)) (.var 6)))) .nil))))⟩ -- _law_is_told
def c65 : FDef := ⟨["hand", "state", "edit", "later", "back", "words"], ["hand", "state", "edit"], (.cons (.asg 3 (.call 59 (.cons (.var 1) (.cons (.var 2) .nil)))) (.cons (.ite (.cmp .ne (.call 39 (.cons (.var 1) (.cons (.var 2) .nil))) (.notN (.var 3))) (.cons (.ret (.k (.bl false))) .nil) .nil) (.cons (.ite (.isN (.var 3)) (.cons (.own 5 (.disp (.cons (.word (.call 40 (.cons (.var 1) (.cons (.var 2) .nil)))) .nil))) (.cons (.app 5 (.word (.call 42 (.cons (.var 1) (.cons (.var 2) .nil))))) (.cons (.frz 5) (.cons (.ret (.cmp .eq (.var 5) (.ofL (.disp (.cons (.k (.str "edit")) (.cons (.k (.str "edit")) .nil)))))) .nil)))) .nil) (.cons (.asg 4 (.call 60 (.cons (.var 1) (.cons (.var 2) .nil)))) (.cons (.ite (.or (.cons (.cmp .ne (.call 40 (.cons (.var 1) (.cons (.var 2) .nil))) (.var 3)) (.cons (.cmp .ne (.call 42 (.cons (.var 1) (.cons (.var 2) .nil))) (.var 4)) (.cons (.notB true (.call 24 (.cons (.var 3) .nil))) .nil)))) (.cons (.ret (.k (.bl false))) .nil) .nil) (.cons (.ret (.and (.cons (.cmp .eq (.call 40 (.cons (.var 3) (.cons (.var 4) .nil))) (.var 1)) (.cons (.cmp .eq (.call 59 (.cons (.var 3) (.cons (.var 4) .nil))) (.var 1)) .nil)))) .nil))))))⟩ -- _law_is_edit_right
def c66 : FDef := ⟨["hand", "state", "some", "none", "bad", "words"], ["hand", "state"], (.cons (.asg 2 (.ofL (.disp (.cons (.k .non) (.cons (.tup .nil) (.cons (.tup (.cons (.sub (.var 1) (.k (.int 0))) .nil)) (.cons (.ofL (.disp (.cons (.tup .nil) (.cons (.tup .nil) .nil)))) (.cons (.tup (.cons (.sub (.var 1) (.k (.int 0))) (.cons (.ofL (.disp (.cons (.tup (.cons (.k (.str "p")) (.cons (.k (.int 1)) .nil))) .nil))) .nil))) (.cons (.tup (.cons (.tup (.cons (.tup (.cons (.k (.str "a")) (.cons (.tup (.cons (.k (.str "fault")) (.cons (.k (.str "x")) .nil))) .nil))) .nil)) (.cons (.tup .nil) .nil))) (.cons (.k (.str "?")) .nil)))))))))) (.cons (.asg 3 (.call 50 (.cons (.var 0) (.cons (.var 2) .nil)))) (.cons (.asg 4 (.call 62 (.cons (.var 0) (.cons (.var 1) .nil)))) (.cons (.ite (.or (.cons (.notB false (.call 24 (.cons (.var 3) .nil))) (.cons (.notB false (.call 39 (.cons (.var 1) (.cons (.var 4) .nil)))) .nil))) (.cons (.ret (.k (.bl false))) .nil) .nil) (.cons (.own 5 (.disp (.cons (.word (.call 39 (.cons (.var 3) (.cons (.var 4) .nil)))) .nil))) (.cons (.app 5 (.word (.call 40 (.cons (.var 3) (.cons (.var 4) .nil))))) (.cons (.app 5 (.word (.call 40 (.cons (.var 1) (.cons (.var 4) .nil))))) (.cons (.app 5 (.word (.call 42 (.cons (.var 1) (.cons (.var 4) .nil))))) (.cons (.app 5 (.word (.call 33 (.cons (.tup (.cons (.k (.str "fault")) (.cons (.k (.str "x")) .nil))) (.cons (.tup .nil) (.cons (.k (.int 1)) .nil)))))) (.cons (.app 5 (.word (.call 33 (.cons (.k (.int 1)) (.cons (.tup .nil) (.cons (.k .non) .nil)))))) (.cons (.app 5 (.word (.call 33 (.cons (.k (.int 1)) (.cons (.ofL (.disp (.cons (.k (.str "?")) .nil))) (.cons (.k (.int 1)) .nil)))))) (.cons (.frz 5) (.cons (.ret (.cmp .eq (.var 5) (.ofL (.disp (.cons (.k (.str "state")) (.cons (.k (.str "state")) (.cons (.k (.str "edit")) (.cons (.k (.str "edit")) (.cons (.k (.str "value")) (.cons (.k (.str "value")) (.cons (.k (.str "path")) .nil))))))))))) .nil)))))))))))))⟩ -- _law_are_refused
def c67 : FDef := ⟨["script", "hand", "state", "name", "value", "behind", "turn", "ahead", "back", "edit", "items"], ["script"], (.cons (.asg 1 (.call 48 (.cons (.var 0) .nil))) (.cons (.asg 2 (.tup (.cons (.call 52 (.cons (.var 1) .nil)) (.cons (.call 53 (.cons (.var 1) .nil)) .nil)))) (.cons (.ite (.or (.cons (.cmp .ne (.call 26 (.cons (.sub (.var 2) (.k (.int 0))) (.cons (.sub (.var 2) (.k (.int 1))) .nil))) (.var 2)) (.cons (.notB true (.call 24 (.cons (.var 2) .nil))) .nil))) (.cons (.ret (.k (.bl false))) .nil) .nil) (.cons (.for_ (.t2 3 4) (.seq (.sub (.var 2) (.k (.int 0)))) (.cons (.ite (.not (.call 63 (.cons (.var 1) (.cons (.var 4) .nil)))) (.cons (.ret (.k (.bl false))) .nil) .nil) .nil)) (.cons (.own 5 (.disp .nil)) (.cons (.for_ (.n 6) (.range (.k (.int 6))) (.cons (.asg 9 (.call 61 (.cons (.var 1) (.cons (.var 2) .nil)))) (.cons (.ite (.or (.cons (.not (.call 65 (.cons (.var 1) (.cons (.var 2) (.cons (.var 9) .nil))))) (.cons (.not (.call 66 (.cons (.var 1) (.cons (.var 2) .nil)))) .nil))) (.cons (.ret (.k (.bl false))) .nil) .nil) (.cons (.asg 10 (.ofL (.disp (.cons (.tup (.cons (.k (.str "a")) (.cons (.tup .nil) .nil))) (.cons (.tup (.cons (.k (.str "b")) (.cons (.tup (.cons (.k (.str "<")) .nil)) .nil))) (.cons (.tup (.cons (.k (.str "c")) (.cons (.tup (.cons (.k (.str ".m")) .nil)) .nil))) (.cons (.tup (.cons (.k (.str "e")) (.cons (.tup .nil) .nil))) .nil))))))) (.cons (.ite (.not (.call 64 (.cons (.var 2) (.cons (.var 10) .nil)))) (.cons (.ret (.k (.bl false))) .nil) .nil) (.cons (.ite (.notN (.call 59 (.cons (.var 2) (.cons (.var 9) .nil)))) (.cons (.app 5 (.tup (.cons (.var 2) (.cons (.call 60 (.cons (.var 2) (.cons (.var 9) .nil))) .nil)))) (.cons (.asg 2 (.call 59 (.cons (.var 2) (.cons (.var 9) .nil)))) .nil)) .nil) .nil)))))) (.cons (.frz 5) (.cons (.for_ (.t2 7 8) (.seq (.rev (.var 5))) (.cons (.asg 2 (.call 40 (.cons (.var 2) (.cons (.var 8) .nil)))) (.cons (.ite (.cmp .ne (.var 2) (.var 7)) (.cons (.ret (.k (.bl false))) .nil) .nil) .nil))) (.cons (.ret (.k (.bl true))) .nil)))))))))⟩ -- law
def rows : List Row := ([⟨c0, 33, false, "is_integer"⟩, ⟨c1, 34, false, "is_within"⟩, ⟨c2, 35, false, "is_name"⟩, ⟨c3, 36, false, "is_plain"⟩, ⟨c4, 37, false, "are_named"⟩, ⟨c5, 38, false, "parts_of_whole"⟩, ⟨c6, 40, false, "is_told"⟩, ⟨c7, 41, false, "is_value"⟩, ⟨c8, 42, false, "is_given"⟩, ⟨c9, 43, false, "is_store"⟩, ⟨c10, 44, false, "are_choices"⟩, ⟨c11, 45, false, "check_store"⟩, ⟨c12, 46, false, "check_choices"⟩, ⟨c13, 47, false, "check_value"⟩, ⟨c14, 48, false, "is_step"⟩, ⟨c15, 49, false, "is_path"⟩, ⟨c16, 50, false, "check_path"⟩, ⟨c17, 51, false, "raw_head"⟩, ⟨c18, 52, false, "head_of"⟩, ⟨c19, 53, false, "raw_steps"⟩] : List Row) ++ ([⟨c20, 54, false, "part_by"⟩, ⟨c21, 55, false, "raw_part"⟩, ⟨c22, 56, false, "part_at"⟩, ⟨c23, 57, false, "all_paths"⟩, ⟨c24, 60, false, "is_state"⟩, ⟨c25, 61, false, "check_state"⟩, ⟨c26, 62, false, "state_of"⟩, ⟨c27, 63, true, "with_name"⟩, ⟨c28, 64, false, "without_name"⟩, ⟨c29, 65, false, "under"⟩, ⟨c30, 66, false, "step_down"⟩, ⟨c31, 67, false, "step_up"⟩, ⟨c32, 68, false, "part_put"⟩, ⟨c33, 69, false, "with_part"⟩, ⟨c34, 70, false, "list_at"⟩, ⟨c35, 71, false, "has_edit_form"⟩, ⟨c36, 72, false, "new_value"⟩, ⟨c37, 73, false, "raw_edited"⟩, ⟨c38, 74, false, "made_by_edit"⟩, ⟨c39, 75, false, "is_edit"⟩] : List Row) ++ ([⟨c40, 76, false, "edited"⟩, ⟨c41, 77, false, "name_back"⟩, ⟨c42, 78, false, "edit_back"⟩, ⟨c43, 85, false, "is_item"⟩, ⟨c44, 86, false, "check_item"⟩, ⟨c45, 87, false, "value_by"⟩, ⟨c46, 88, false, "raw_told"⟩, ⟨c47, 89, false, "told_head"⟩, ⟨c48, 91, false, "_law_hand"⟩, ⟨c49, 92, false, "_law_draw"⟩, ⟨c50, 93, false, "_law_any"⟩, ⟨c51, 94, false, "_law_value"⟩, ⟨c52, 95, false, "_law_store"⟩, ⟨c53, 96, false, "_law_choices"⟩, ⟨c54, 97, false, "_law_part"⟩, ⟨c55, 98, false, "_law_paths"⟩, ⟨c56, 99, false, "_law_with"⟩, ⟨c57, 100, false, "_law_found"⟩, ⟨c58, 101, false, "_law_set"⟩, ⟨c59, 102, false, "_law_edited"⟩] : List Row) ++ ([⟨c60, 103, false, "_law_back"⟩, ⟨c61, 104, false, "_law_edit"⟩, ⟨c62, 105, false, "_law_bad_edit"⟩, ⟨c63, 107, true, "_law_are_paths_right"⟩, ⟨c64, 108, false, "_law_is_told"⟩, ⟨c65, 109, true, "_law_is_edit_right"⟩, ⟨c66, 110, true, "_law_are_refused"⟩, ⟨c67, 111, false, "law"⟩] : List Row)
def tbl : List FDef := rows.map fun r : Row => r.d
def fnl : List (Str × Nat) := ([("is_integer", 33), ("is_within", 34), ("is_name", 35), ("is_plain", 36), ("are_named", 37), ("parts_of_whole", 38), ("is_fault", 39), ("is_told", 40), ("is_value", 41), ("is_given", 42), ("is_store", 43), ("are_choices", 44), ("check_store", 45), ("check_choices", 46), ("check_value", 47), ("is_step", 48), ("is_path", 49), ("check_path", 50), ("raw_head", 51), ("head_of", 52)] : List (Str × Nat)) ++ ([("raw_steps", 53), ("part_by", 54), ("raw_part", 55), ("part_at", 56), ("all_paths", 57), ("is_state", 60), ("check_state", 61), ("state_of", 62), ("with_name", 63), ("without_name", 64), ("under", 65), ("step_down", 66), ("step_up", 67), ("part_put", 68), ("with_part", 69), ("list_at", 70), ("has_edit_form", 71), ("new_value", 72), ("raw_edited", 73), ("made_by_edit", 74)] : List (Str × Nat)) ++ ([("is_edit", 75), ("edited", 76), ("name_back", 77), ("edit_back", 78), ("is_item", 85), ("check_item", 86), ("value_by", 87), ("raw_told", 88), ("told_head", 89), ("_law_hand", 91), ("_law_draw", 92), ("_law_any", 93), ("_law_value", 94), ("_law_store", 95), ("_law_choices", 96), ("_law_part", 97), ("_law_paths", 98), ("_law_with", 99), ("_law_found", 100), ("_law_set", 101)] : List (Str × Nat)) ++ ([("_law_edited", 102), ("_law_back", 103), ("_law_edit", 104), ("_law_bad_edit", 105), ("_law_word", 106), ("_law_are_paths_right", 107), ("_law_is_told", 108), ("_law_is_edit_right", 109), ("_law_are_refused", 110), ("law", 111)] : List (Str × Nat))
def lamN : List Str := ["with_name", "_law_are_paths_right", "_law_is_edit_right", "_law_are_refused"]
def infoFns : List (Str × Nat) := ([("is_integer", 1), ("is_within", 3), ("is_name", 1), ("is_plain", 1), ("are_named", 2), ("parts_of_whole", 2), ("is_told", 4), ("is_value", 1), ("is_given", 1), ("is_store", 1), ("are_choices", 1), ("check_store", 1), ("check_choices", 1), ("check_value", 1), ("is_step", 1), ("is_path", 1), ("check_path", 1), ("raw_head", 1), ("head_of", 1), ("raw_steps", 1)] : List (Str × Nat)) ++ ([("part_by", 2), ("raw_part", 2), ("part_at", 2), ("all_paths", 1), ("is_state", 1), ("check_state", 1), ("state_of", 2), ("with_name", 3), ("without_name", 2), ("under", 2), ("step_down", 2), ("step_up", 3), ("part_put", 3), ("with_part", 3), ("list_at", 2), ("has_edit_form", 1), ("new_value", 2), ("raw_edited", 2), ("made_by_edit", 2), ("is_edit", 2)] : List (Str × Nat)) ++ ([("edited", 2), ("name_back", 3), ("edit_back", 2), ("is_item", 1), ("check_item", 1), ("value_by", 2), ("raw_told", 3), ("told_head", 3), ("_law_hand", 1), ("_law_draw", 2), ("_law_any", 2), ("_law_value", 2), ("_law_store", 1), ("_law_choices", 1), ("_law_part", 2), ("_law_paths", 1), ("_law_with", 3), ("_law_found", 2), ("_law_set", 3), ("_law_edited", 2)] : List (Str × Nat)) ++ ([("_law_back", 2), ("_law_edit", 2), ("_law_bad_edit", 2), ("_law_are_paths_right", 2), ("_law_is_told", 2), ("_law_is_edit_right", 3), ("_law_are_refused", 2), ("law", 1)] : List (Str × Nat))
def info : Info := {
  gInt := [("MOST_FIGURE", 1000000000000000000), ("MOST_SIGNS", 40), ("BARRED_SIGN", 37), ("MOST_NAME", 12), ("MOST_PAIRS", 12), ("MOST_VALUES", 400), ("MOST_DEEP", 40), ("MOST_PARTS", 2000), ("MOST_GIVEN_VALUES", 40), ("MOST_GIVEN_DEEP", 12), ("MOST_NAMES", 30), ("MOST_STEPS", 500), ("MOST_SPOT", 999999)]
  gStr := [("REC", "rec"), ("CASE", "case"), ("LIST", "list"), ("BROKEN", "broken"), ("FAULT", "fault"), ("CONS", "cons"), ("NIL", "nil"), ("DOT", "."), ("WITHIN", "!"), ("FIRST", "<"), ("REST", ">"), ("SPOT", "spot"), ("GIVEN", "given"), ("CHOICE", "choice"), ("LACKING", "lacking")]
  fns := infoFns
  exc := ["WhyError", "NoValue", "NoPath", "NoStore", "NoChoices", "NoItem", "NoEdit", "NoState"]
  dgs := [("EDIT_SIZES", d_EDIT_SIZES)]
  free := ["ValueError", "abs", "all", "bool", "int", "isinstance", "len", "list", "ord", "range", "repr", "sorted", "str", "tuple", "zip"]
  word := "_law_word" }
end Core49
namespace Core49
open Wy PySem L2
def top (i : Nat) : Stmt := PySem.Challenge.pw_whytongue_k49_whole_states_and_edits.main.body.getD i (.Pass ⟨0, 0, 0, 0⟩)
theorem rows_all : ((List.range rows.length).all fun i => match rows[i]? with | some r => rowB info fnl lamN top i r | none => false) = true := by decide +kernel
theorem rows_ok (i : Nat) (r : Row) (h : rows[i]? = some r) : rowB info fnl lamN top i r = true := by
  have hi : i < rows.length := (List.getElem?_eq_some_iff.mp h).1
  have := List.all_eq_true.mp rows_all i (List.mem_range.mpr hi)
  rw [h] at this
  exact this
theorem len_ok : info.fns.length = rows.length := by decide +kernel
def lawI : Nat := 67
theorem law_at : info.fns[lawI]? = some (("law" : Str), 1) := by decide +kernel
end Core49
end
section
set_option maxRecDepth 100000
set_option maxHeartbeats 400000
namespace Pl
open PySem Wy Core49
abbrev tblD : List FDef := rows.map fun r : Wy.Row => r.d
abbrev R (d : Nat) (i : Nat) (us : List U) (S : Sto) : UM U := run tblD wdU d i us S
theorem t0 (d : Nat) (i : Int) (S : Sto) : R (d + 1) 0 [.int i] S = some (.ok (.bl true), S) := rfl
theorem t1 (d : Nat) (b : Bool) (S : Sto) : R (d + 1) 0 [.bl b] S = some (.ok (.bl false), S) := rfl
theorem t2 (d : Nat) (S : Sto) : R (d + 1) 2 [.str "abc"] S = some (.ok (.bl true), S) := by rfl
theorem t2' (d : Nat) (S : Sto) : R (d + 1) 2 [.str "abc"] S = some (.ok (.bl true), S) := by with_unfolding_all exact (by kernel_rfl)
theorem t3 (d : Nat) (i : Int) (S : Sto) : R (d + 2) 3 [.int i] S = some (.ok (.bl (decide ((if i < 0 then -i else i) < 1000000000000000000))), S) := rfl
end Pl
end
section
set_option maxRecDepth 100000
set_option maxHeartbeats 400000
namespace Pl
open PySem Wy Core49
/-! ### values of the law -/
inductive Lf where | i0 | i1 | i2 | i5 | m4 | tt | ff | word | non | big
mutual
inductive Va where
  | lf (l : Lf) | rc1 (n : Va) | rc2 (m n : Va) | cas (left : Bool) (v : Va) | lis (vs : Vs)
inductive Vs where
  | nil | cons (v : Va) (vs : Vs)
end
def encF : Lf → U
  | .i0 => .int 0 | .i1 => .int 1 | .i2 => .int 2 | .i5 => .int 5 | .m4 => .int (-4) | .tt => .bl true | .ff => .bl false | .word => .str "word" | .non => .str "" | .big => .int 100000000000000000
def side (l : Bool) : U := .str (if l = true then "left" else "right")
mutual
def enc : Va → U
  | .lf l => encF l
  | .rc1 n => .tup [.str "rec", .tup [.tup [.str "n", enc n]]]
  | .rc2 m n => .tup [.str "rec", .tup [.tup [.str "m", enc m], .tup [.str "n", enc n]]]
  | .cas l v => .tup [.str "case", side l, enc v]
  | .lis vs => .tup [.str "list", .tup (encs vs)]
def encs : Vs → List U
  | .nil => []
  | .cons v vs => enc v :: encs vs
end
/-! levels; a list counts as if it had something -/
mutual
def lev : Va → Nat
  | .lf _ => 1
  | .rc1 n => lev n + 1
  | .rc2 m n => max (lev m) (lev n) + 1
  | .cas _ v => lev v + 1
  | .lis vs => levs vs + 1
def levs : Vs → Nat
  | .nil => 1
  | .cons v vs => max (lev v) (levs vs)
end
mutual
def nod : Va → Nat
  | .lf _ => 1
  | .rc1 n => nod n + 1
  | .rc2 m n => nod m + nod n + 1
  | .cas _ v => nod v + 1
  | .lis vs => nods vs + 1
def nods : Vs → Nat
  | .nil => 0
  | .cons v vs => nod v + nods vs
end
/-! ### like values are equal -/
/-- may be asked by == -/
def EqOk (n : Nat) (u : U) : Prop := ∃ d, toPy u = some d ∧ d.canLay0 = true ∧ d.depth ≤ n
theorem uEq_self {u : U} (h : EqOk 64 u) : uEq u u = some true := by
  obtain ⟨d, e, h1, h2⟩ := h
  have hs : SeqAt.shaped d = true := by
    unfold SeqAt.shaped
    rw [h1]; simpa using h2
  unfold uEq
  rw [e]
  simp only [hs, and_self, if_true]
  rw [SeqAt.eqv_refl d h1]
end Pl
namespace Pl
open PySem Wy Core49
def EqOks (n : Nat) (us : List U) : Prop := ∃ ds, toPys us = some ds ∧ PyData.canLayAll0 ds = true ∧ PyData.depthAll ds ≤ n
theorem EqOk.mono {n m : Nat} {u : U} (h : EqOk n u) (e : n ≤ m) : EqOk m u := let ⟨d, a, b, c⟩ := h; ⟨d, a, b, Nat.le_trans c e⟩
theorem EqOks.mono {n m : Nat} {u : List U} (h : EqOks n u) (e : n ≤ m) : EqOks m u := let ⟨d, a, b, c⟩ := h; ⟨d, a, b, Nat.le_trans c e⟩
theorem EqOks.nil {n : Nat} : EqOks n [] := ⟨[], rfl, rfl, by simp [PyData.depthAll]⟩
theorem EqOks.cons {n : Nat} {u : U} {us : List U} (h : EqOk n u) (r : EqOks n us) : EqOks n (u :: us) := by
  obtain ⟨d, a, b, c⟩ := h
  obtain ⟨ds, a', b', c'⟩ := r
  exact ⟨d :: ds, by simp [toPys, a, a'], by simp [PyData.canLayAll0, b, b'], by simp [PyData.depthAll]; omega⟩
theorem EqOk.tup {n : Nat} {us : List U} (h : EqOks n us) : EqOk (n + 1) (.tup us) := by
  obtain ⟨ds, a, b, c⟩ := h
  exact ⟨.tuple ds, by simp [toPy, a], by simpa [PyData.canLay0] using b, by simp [PyData.depth]; omega⟩
theorem EqOk.lst {n : Nat} {us : List U} (h : EqOks n us) : EqOk (n + 1) (.lst us) := by
  obtain ⟨ds, a, b, c⟩ := h
  exact ⟨.list ds, by simp [toPy, a], by simpa [PyData.canLay0] using b, by simp [PyData.depth]; omega⟩
theorem eqok_str {n : Nat} {s : Str} (h : PyData.strOk s = true) : EqOk n (.str s) := ⟨.str s, rfl, by simpa [PyData.canLay0] using h, by simp [PyData.depth]⟩
theorem eqok_int {n : Nat} {i : Int} : EqOk n (.int i) := ⟨.int i, rfl, rfl, by simp [PyData.depth]⟩
theorem eqok_bl {n : Nat} {i : Bool} : EqOk n (.bl i) := ⟨.bool i, rfl, rfl, by simp [PyData.depth]⟩
theorem eqok_non {n : Nat} : EqOk n .non := ⟨.none, rfl, rfl, by simp [PyData.depth]⟩
theorem eqok_f {n : Nat} (l : Lf) : EqOk n (encF l) := by
  cases l <;> first | exact eqok_int | exact eqok_bl | exact eqok_str (by decide +kernel)
theorem eqok_side {n : Nat} (l : Bool) : EqOk n (side l) := by
  cases l <;> exact eqok_str (by decide +kernel)
mutual
theorem eqok_enc : ∀ v : Va, EqOk (3 * lev v) (enc v)
  | .lf l => eqok_f l
  | .rc1 n => by
    have h := eqok_enc n
    refine (EqOk.tup (n := 3 * lev n + 2) (.cons (eqok_str (by decide +kernel)) (.cons (.tup (.cons (.tup (.cons (eqok_str (by decide +kernel)) (.cons h .nil))) .nil)) .nil))).mono (by simp [lev]; omega)
  | .rc2 m n => by
    have h1 := (eqok_enc m).mono (m := 3 * max (lev m) (lev n)) (by omega)
    have h2 := (eqok_enc n).mono (m := 3 * max (lev m) (lev n)) (by omega)
    refine (EqOk.tup (n := 3 * max (lev m) (lev n) + 2) (.cons (eqok_str (by decide +kernel)) (.cons (.tup (.cons (.tup (.cons (eqok_str (by decide +kernel)) (.cons h1 .nil))) (.cons (.tup (.cons (eqok_str (by decide +kernel)) (.cons h2 .nil))) .nil))) .nil))).mono (by simp [lev]; omega)
  | .cas l v => by
    have h := eqok_enc v
    exact (EqOk.tup (n := 3 * lev v) (.cons (eqok_str (by decide +kernel)) (.cons (eqok_side l) (.cons h .nil)))).mono (by simp [lev]; omega)
  | .lis vs => by
    have h := eqok_encs vs
    exact (EqOk.tup (n := 3 * levs vs + 1) (.cons (eqok_str (by decide +kernel)) (.cons (.tup h) .nil))).mono (by simp [lev]; omega)
theorem eqok_encs : ∀ vs : Vs, EqOks (3 * levs vs) (encs vs)
  | .nil => .nil
  | .cons v vs => .cons ((eqok_enc v).mono (by simp [levs]; omega)) ((eqok_encs vs).mono (by simp [levs]; omega))
end
end Pl
end
section
set_option maxRecDepth 100000
set_option maxHeartbeats 400000
namespace Pl
open PySem Wy Core49
inductive St where | m | n | bang | fst | rst
deriving DecidableEq
def encS : St → U
  | .m => .str ".m" | .n => .str ".n" | .bang => .str "!" | .fst => .str "<" | .rst => .str ">"
def encP (p : List St) : U := .tup (p.map encS)
def stepsOf : Va → List St
  | .lf _ => [] | .rc1 _ => [.n] | .rc2 _ _ => [.m, .n] | .cas _ _ => [.bang] | .lis .nil => [] | .lis (.cons _ _) => [.fst, .rst]
def sub1 : Va → St → Option Va
  | .rc1 n, .n => some n
  | .rc2 m _, .m => some m
  | .rc2 _ n, .n => some n
  | .cas _ v, .bang => some v
  | .lis (.cons v _), .fst => some v
  | .lis (.cons _ vs), .rst => some (.lis vs)
  | _, _ => none
/-- heads -/
def headOf : Va → U
  | .lf l => encF l
  | .rc1 _ => .tup [.str "rec", .tup [.str "n"]]
  | .rc2 _ _ => .tup [.str "rec", .tup [.str "m", .str "n"]]
  | .cas l _ => .tup [.str "case", side l]
  | .lis .nil => .tup [.str "nil"]
  | .lis (.cons _ _) => .tup [.str "cons"]
theorem pos_len {α : Type} (x : α) (xs : List α) : decide ((0 : Int) < ((x :: xs).length : Int)) = true := decide_eq_true (by simp)
theorem stp {d i : Nat} {us : List U} {S : Sto} {c : FDef} (h : tblD[i]? = some c) : R (d + 1) i us S = runBody (R d) wdU c us S := by
  show (match tblD[i]? with | some d' => runBody (run tblD wdU d) wdU d' us S | none => none) = _
  rw [h]
theorem raw_head_cons (d : Nat) (S : Sto) (v : U) (vs : List U) : R (d + 1) 17 [.tup [.str "list", .tup (v :: vs)]] S = some (.ok (.tup [.str "cons"]), S) := by
  rw [stp (c := c17) rfl]
  have e1 : uEq (.str "list") (.str "rec") = some false := by kernel_rfl
  have e2 : uEq (.str "list") (.str "case") = some false := by kernel_rfl
  have e3 : uEq (.str "list") (.str "fault") = some false := by kernel_rfl
  simp [runBody, c17, exB, exS, evE, evEs, evAnd, evOr, bindE, bindO, optO, pureO, nxS, slotU, isiU, asB, uIdx, seqOf, L2.atI, L2.ixN, e1, e2, e3, uCmp, uBlt, line]
theorem raw_head_ok (d : Nat) (S : Sto) : ∀ v : Va, R (d + 1) 17 [enc v] S = some (.ok (headOf v), S)
  | .lf l => by cases l <;> kernel_rfl
  | .rc1 n => by kernel_rfl
  | .rc2 m n => by kernel_rfl
  | .cas l v => by cases l <;> kernel_rfl
  | .lis .nil => by kernel_rfl
  | .lis (.cons v vs) => by
    exact raw_head_cons d S (enc v) (encs vs)
theorem raw_steps_ok (d : Nat) (S : Sto) : ∀ v : Va, R (d + 1) 19 [headOf v] S = some (.ok (encP (stepsOf v)), S)
  | .lf l => by cases l <;> kernel_rfl
  | .rc1 n => by kernel_rfl
  | .rc2 m n => by kernel_rfl
  | .cas l v => by cases l <;> kernel_rfl
  | .lis .nil => by kernel_rfl
  | .lis (.cons v vs) => by kernel_rfl
end Pl
end
section
set_option maxRecDepth 100000
set_option maxHeartbeats 400000
namespace Pl
open PySem Wy Core49
theorem cut1 {α : U} (xs : List U) : cutU (α :: xs) (some 1) none = xs := by
  unfold cutU
  have e1 : HT.sIx (α :: xs).length 0 (some 1) = 1 := by
    show (if (1 : Int) < 0 then ((1 : Int) + ((α :: xs).length : Int)).toNat else min (1 : Int).toNat (α :: xs).length) = 1
    rw [if_neg (by decide)]
    simp
  rw [e1, HT.sIx_none]
  simp
theorem part_by_ok (d : Nat) (S : Sto) : ∀ (v : Va) (s : St) (w : Va), sub1 v s = some w → R (d + 1) 20 [enc v, encS s] S = some (.ok (enc w), S) := by
  intro v s w h
  cases v with
  | lf l => cases s <;> cases h
  | rc1 n => cases s <;> cases h; kernel_rfl
  | rc2 m n => cases s <;> cases h <;> kernel_rfl
  | cas l v => cases s <;> cases h; cases l <;> kernel_rfl
  | lis vs =>
    cases vs with
    | nil => cases s <;> cases h
    | cons v vs =>
      cases s <;> cases h
      · rw [stp (c := c20) rfl]
        have e1 : uEq (.str "<") (.str "!") = some false := by kernel_rfl
        have e2 : uEq (.str "<") (.str "<") = some true := by kernel_rfl
        simp [runBody, c20, exB, exS, evE, evEs, evO, evAnd, evOr, bindE, bindO, optO, pureO, nxS, slotU, isiU, asB, asI, uIdx, uSlc, seqOf, L2.atI, L2.ixN, e1, e2, uCmp, uBlt, line, enc, encs, encS]
      · rw [stp (c := c20) rfl]
        have e1 : uEq (.str ">") (.str "!") = some false := by kernel_rfl
        have e2 : uEq (.str ">") (.str "<") = some false := by kernel_rfl
        have e3 : uEq (.str ">") (.str ">") = some true := by kernel_rfl
        have e4 : uEq (.str "list") (.str "list") = some true := by kernel_rfl
        simp [runBody, c20, exB, exS, evE, evEs, evO, evAnd, evOr, bindE, bindO, optO, pureO, nxS, slotU, isiU, asB, asI, uIdx, uSlc, seqOf, L2.atI, L2.ixN, e1, e2, e3, e4, uCmp, uBlt, line, enc, encs, encS, cut1]
end Pl
end
section
set_option maxRecDepth 100000
set_option maxHeartbeats 400000
namespace Pl
open PySem Wy Core49
def part : Va → List St → Option Va
  | v, [] => some v
  | v, s :: p => (sub1 v s).bind fun w => part w p
theorem notin_ok (v : Va) (s : St) : uCmp .notin (encS s) (encP (stepsOf v)) = some (sub1 v s).isNone := by
  cases v with
  | lf l => cases s <;> kernel_rfl
  | rc1 n => cases s <;> kernel_rfl
  | rc2 m n => cases s <;> kernel_rfl
  | cas l v => cases s <;> kernel_rfl
  | lis vs => cases vs <;> cases s <;> kernel_rfl
theorem stpE {d i : Nat} {us : List U} {S : Sto} {c : FDef} {ρ : En} (h : tblD[i]? = some c) (hl : us.length = c.ps.length) (hr : us.map Slot.v ++ List.replicate (c.N.length - us.length) Slot.nil = ρ) : R (d + 1) i us S = endU (exB (R d) wdU c.body ρ S) := by
  rw [stp h]
  unfold runBody
  rw [if_pos hl, hr]
  rfl
def b21 : CB := (.cons (.ite (.cmp .notin (.var 3) (.call 19 (.cons (.call 17 (.cons (.var 2) .nil)) .nil))) (.cons (.ret (.k .non)) .nil) .nil) (.cons (.asg 2 (.call 20 (.cons (.var 2) (.cons (.var 3) .nil)))) .nil))
theorem loop21 (d : Nat) (S : Sto) (x y : U) : ∀ (p : List St) (v : Va) (sl : Slot), ∃ sl', forL (.n 3) (exB (R (d + 1)) wdU b21) (p.map encS) [.v x, .v y, .v (enc v), sl] S = (match part v p with | none => some (.ret .non, S) | some w => some (.nx [.v x, .v y, .v (enc w), sl'], S))
  | [], v, sl => ⟨sl, rfl⟩
  | s :: p, v, sl => by
    have h1 := raw_head_ok d S v
    have h2 := raw_steps_ok d S v
    have h3 := notin_ok v s
    unfold part
    cases hs : sub1 v s with
    | none =>
      rw [hs] at h3
      refine ⟨sl, ?_⟩
      simp [forL, setTg, b21, exB, exS, evE, evEs, bindE, bindO, optO, pureO, nxS, slotU, asB, h1, h2, h3]
    | some w =>
      rw [hs] at h3
      have h4 := part_by_ok d S v s w hs
      obtain ⟨sl', ih⟩ := loop21 d S x y p w (.v (encS s))
      refine ⟨sl', ?_⟩
      have step : exB (R (d + 1)) wdU b21 [.v x, .v y, .v (enc v), .v (encS s)] S = some (.nx [.v x, .v y, .v (enc w), .v (encS s)], S) := by
        simp [b21, exB, exS, evE, evEs, bindE, bindO, optO, pureO, nxS, slotU, asB, h1, h2, h3, h4]
      simp only [List.map_cons, Option.bind_some]
      rw [← ih]
      conv => lhs; unfold forL
      simp only [setTg, List.set_cons_succ, List.set_cons_zero]
      rw [step]
theorem raw_part_ok (d : Nat) (S : Sto) (v : Va) (p : List St) : R (d + 2) 21 [enc v, encP p] S = some (.ok (match part v p with | none => .non | some w => enc w), S) := by
  obtain ⟨sl', h⟩ := loop21 d S (enc v) (encP p) p v .nil
  have e : exB (R (d + 1)) wdU c21.body [.v (enc v), .v (encP p), .nil, .nil] S = (match forL (.n 3) (exB (R (d + 1)) wdU b21) (p.map encS) [.v (enc v), .v (encP p), .v (enc v), .nil] S with | some (.nx ρ', S') => exB (R (d + 1)) wdU (.cons (.ret (.var 2)) .nil) ρ' S' | r => r) := by
    rfl
  rw [stpE (c := c21) rfl rfl (ρ := [.v (enc v), .v (encP p), .nil, .nil]) rfl, e, h]
  cases part v p <;> rfl
end Pl
end
section
set_option maxRecDepth 100000
set_option maxHeartbeats 400000
namespace Pl
open PySem Wy Core49
theorem uEq_int (i j : Int) : uEq (.int i) (.int j) = some (decide (i = j)) := by
  unfold uEq
  simp [toPy, SeqAt.shaped, PyData.canLay0, PyData.depth, PyData.eqv]
  rfl
def b54 : CB := (.cons (.ite (.not (.isi (.var 0) .tuple)) (.cons (.ret (.k .non)) .nil) .nil) (.cons (.ite (.cmp .eq (.sub (.var 0) (.k (.int 0))) (.k (.str "rec"))) (.cons (.asg 3 (.ofL (.comp (.var 5) (.t2 4 5) (.seq (.sub (.var 0) (.k (.int 1)))) (.so (.cmp .eq (.var 2) (.bin .add (.k (.str ".")) (.var 4)))) [("name", 4), ("one", 5)]))) .nil) (.cons (.ite (.cmp .eq (.sub (.var 0) (.k (.int 0))) (.k (.str "case"))) (.cons (.asg 3 (.ite (.cmp .eq (.var 2) (.k (.str "!"))) (.ofL (.disp (.cons (.sub (.var 0) (.k (.int 2))) .nil))) (.ofL (.disp .nil)))) .nil) (.cons (.asg 3 (.ite (.cmp .eq (.blt .len (.sub (.var 0) (.k (.int 1)))) (.k (.int 0))) (.ofL (.disp .nil)) (.ite (.cmp .eq (.var 2) (.k (.str "<"))) (.ofL (.disp (.cons (.sub (.sub (.var 0) (.k (.int 1))) (.k (.int 0))) .nil))) (.ofL (.disp .nil))))) (.cons (.ite (.and (.cons (.cmp .eq (.var 2) (.k (.str ">"))) (.cons (.cmp .gt (.blt .len (.sub (.var 0) (.k (.int 1)))) (.k (.int 0))) .nil))) (.cons (.asg 3 (.ofL (.disp (.cons (.tup (.cons (.k (.str "list")) (.cons (.slc (.sub (.var 0) (.k (.int 1))) (.so (.k (.int 1))) .no) .nil))) .nil)))) .nil) .nil) .nil))) .nil)) (.cons (.ite (.cmp .eq (.blt .len (.var 3)) (.k (.int 0))) (.cons (.ret (.k .non)) .nil) .nil) (.cons (.asg 0 (.sub (.var 3) (.k (.int 0)))) .nil))))
theorem step54 (d : Nat) (S : Sto) (y : U) (b c e : Wy.Slot) (v : Va) (s : St) : exB (R d) wdU b54 [.v (enc v), .v y, .v (encS s), b, c, e] S = (match sub1 v s with | none => some (.ret .non, S) | some w => some (.nx [.v (enc w), .v y, .v (encS s), .v (.lst [enc w]), c, e], S)) := by
  cases v with
  | lf l => cases l <;> cases s <;> kernel_rfl
  | rc1 n => cases s <;> kernel_rfl
  | rc2 m n => cases s <;> kernel_rfl
  | cas l v => cases s <;> kernel_rfl
  | lis vs =>
    cases vs with
    | nil => cases s <;> kernel_rfl
    | cons v vs =>
      have e1 : uEq (.str "list") (.str "rec") = some false := by kernel_rfl
      have e2 : uEq (.str "list") (.str "case") = some false := by kernel_rfl
      have f : ∀ s, uEq (encS s) (.str "<") = some (decide (s = .fst)) := fun s => by cases s <;> kernel_rfl
      have g : ∀ s, uEq (encS s) (.str ">") = some (decide (s = .rst)) := fun s => by cases s <;> kernel_rfl
      have h0 : ((encs vs).length : Int) + 1 ≠ 0 := by omega
      have h1 : (0 : Int) < ((encs vs).length : Int) + 1 := by omega
      cases s <;> simp [b54, exB, exS, evE, evEs, evL, evO, evAnd, evOr, bindE, bindO, optO, pureO, nxS, slotU, isiU, asB, asI, uIdx, uSlc, seqOf, L2.atI, L2.ixN, e1, e2, f, g, uCmp, uBlt, line, enc, encs, cut1, uEq_int, h0, h1, sub1]
theorem loop54 (d : Nat) (S : Sto) (y : U) (c e : Wy.Slot) : ∀ (p : List St) (v : Va) (a b : Wy.Slot), ∃ a' b', forL (.n 2) (exB (R d) wdU b54) (p.map encS) [.v (enc v), .v y, a, b, c, e] S = (match part v p with | none => some (.ret .non, S) | some w => some (.nx [.v (enc w), .v y, a', b', c, e], S))
  | [], v, a, b => ⟨a, b, rfl⟩
  | s :: p, v, a, b => by
    have st := step54 d S y b c e v s
    unfold part
    cases hs : sub1 v s with
    | none =>
      rw [hs] at st
      refine ⟨a, b, ?_⟩
      simp only [List.map_cons, Option.bind_none]
      conv => lhs; unfold forL
      simp only [setTg, List.set_cons_succ, List.set_cons_zero]
      rw [st]
    | some w =>
      rw [hs] at st
      obtain ⟨a', b', ih⟩ := loop54 d S y c e p w (.v (encS s)) (.v (.lst [enc w]))
      refine ⟨a', b', ?_⟩
      simp only [List.map_cons, Option.bind_some]
      rw [← ih]
      conv => lhs; unfold forL
      simp only [setTg, List.set_cons_succ, List.set_cons_zero]
      rw [st]
theorem law_part_ok (d : Nat) (S : Sto) (v : Va) (p : List St) : R (d + 1) 54 [enc v, encP p] S = some (.ok (match part v p with | none => .non | some w => enc w), S) := by
  obtain ⟨a', b', h⟩ := loop54 d S (encP p) .nil .nil p v .nil .nil
  have e : exB (R d) wdU c54.body [.v (enc v), .v (encP p), .nil, .nil, .nil, .nil] S = (match forL (.n 2) (exB (R d) wdU b54) (p.map encS) [.v (enc v), .v (encP p), .nil, .nil, .nil, .nil] S with | some (.nx ρ', S') => exB (R d) wdU (.cons (.ret (.var 0)) .nil) ρ' S' | r => r) := by
    rfl
  rw [stpE (c := c54) rfl rfl (ρ := [.v (enc v), .v (encP p), .nil, .nil, .nil, .nil]) rfl, e, h]
  cases part v p <;> rfl
end Pl
end
section
set_option maxRecDepth 100000
set_option maxHeartbeats 400000
namespace Pl
open PySem Wy Core49
theorem step_down_ok (d : Nat) (S : Sto) (v : Va) (s : St) : R (d + 2) 30 [enc v, encS s] S = some (.ok (match sub1 v s with | none => .non | some w => enc w), S) := by
  cases v with
  | lf l => cases l <;> cases s <;> kernel_rfl
  | rc1 n => cases s <;> kernel_rfl
  | rc2 m n => cases s <;> kernel_rfl
  | cas l v => cases s <;> kernel_rfl
  | lis vs =>
    cases vs with
    | nil => cases s <;> kernel_rfl
    | cons v vs =>
      have e1 : uEq (.str "list") (.str "rec") = some false := by kernel_rfl
      have e2 : uEq (.str "list") (.str "case") = some false := by kernel_rfl
      have e4 : uEq (.str "list") (.str "list") = some true := by kernel_rfl
      have f : ∀ s, uEq (encS s) (.str "<") = some (decide (s = .fst)) := fun s => by cases s <;> kernel_rfl
      have g : ∀ s, uCmp .isin (encS s) (.tup [.str "<", .str ">"]) = some (decide (s = .fst ∨ s = .rst)) := fun s => by cases s <;> kernel_rfl
      have h1 : (0 : Int) < ((encs vs).length : Int) + 1 := by omega
      rw [stpE (c := c30) rfl rfl (ρ := [.v (enc (.lis (.cons v vs))), .v (encS s)]) rfl]
      have u1 : ∀ a b, uCmp .eq a b = uEq a b := fun _ _ => rfl
      have u2 : ∀ a b : Int, uCmp .gt (.int a) (.int b) = some (decide (b < a)) := fun _ _ => rfl
      cases s <;> simp [endU, c30, exB, exS, evE, evEs, evL, evO, evAnd, evOr, bindE, bindO, optO, pureO, nxS, slotU, isiU, asB, asI, uIdx, uSlc, seqOf, L2.atI, L2.ixN, e1, e2, e4, f, g, u1, u2, uBlt, line, enc, encs, cut1, h1, sub1]
end Pl
end
section
set_option maxRecDepth 100000
set_option maxHeartbeats 400000
namespace Pl
open PySem Wy Core49
/-- a part put in anew, one step up -/
def up1 : Va → St → Va → Option Va
  | .rc1 _, .n, w => some (.rc1 w)
  | .rc2 _ n, .m, w => some (.rc2 w n)
  | .rc2 m _, .n, w => some (.rc2 m w)
  | .cas l _, .bang, w => some (.cas l w)
  | .lis (.cons _ vs), .fst, w => some (.lis (.cons w vs))
  | .lis (.cons v _), .rst, .lis ws => some (.lis (.cons v ws))
  | _, _, _ => none
def wth : Va → List St → Va → Option Va
  | _, [], o => some o
  | v, s :: p, o => (sub1 v s).bind fun c => (wth c p o).bind fun i => up1 v s i
def len : Vs → Nat
  | .nil => 0
  | .cons _ vs => len vs + 1
theorem len_encs : ∀ vs, (encs vs).length = len vs
  | .nil => rfl
  | .cons v vs => by simp [encs, len, len_encs vs]
end Pl
end
section
set_option maxRecDepth 100000
set_option maxHeartbeats 400000
namespace Pl
open PySem Wy Core49
theorem up_rc1 (d : Nat) (S : Sto) (n w : Va) : R (d + 3) 31 [enc (.rc1 n), encS .n, enc w] S = some (.ok (enc (.rc1 w)), S) := by kernel_rfl
theorem up_rc2m (d : Nat) (S : Sto) (m n w : Va) : R (d + 3) 31 [enc (.rc2 m n), encS .m, enc w] S = some (.ok (enc (.rc2 w n)), S) := by kernel_rfl
theorem up_rc2n (d : Nat) (S : Sto) (m n w : Va) : R (d + 3) 31 [enc (.rc2 m n), encS .n, enc w] S = some (.ok (enc (.rc2 m w)), S) := by kernel_rfl
theorem up_cas (d : Nat) (S : Sto) (l : Bool) (v w : Va) : R (d + 3) 31 [enc (.cas l v), encS .bang, enc w] S = some (.ok (enc (.cas l w)), S) := by kernel_rfl
theorem up_fst (d : Nat) (S : Sto) (v w : Va) (vs : Vs) (hl : len vs + 1 ≤ 1000) : R (d + 3) 31 [enc (.lis (.cons v vs)), encS .fst, enc w] S = some (.ok (enc (.lis (.cons w vs))), S) := by
  have e1 : uEq (.str "list") (.str "rec") = some false := by kernel_rfl
  have e2 : uEq (.str "list") (.str "case") = some false := by kernel_rfl
  have e3 : uEq (encS .fst) (.str "<") = some true := by kernel_rfl
  have hh : 1 + len vs ≤ 1000000 := by omega
  rw [stpE (c := c31) rfl rfl (ρ := [.v (enc (.lis (.cons v vs))), .v (encS .fst), .v (enc w)]) rfl]
  simp [endU, c31, exB, exS, evE, evEs, evL, evO, evAnd, evOr, bindE, bindO, optO, pureO, nxS, slotU, isiU, asB, asI, uIdx, uSlc, seqOf, L2.atI, L2.ixN, e1, e2, e3, uCmp, uBin, uAdd, uBlt, line, enc, encs, cut1, len_encs, hh]
theorem cut01 (x : U) (xs : List U) : cutU (x :: xs) none (some 1) = [x] := by
  unfold cutU
  have e1 : HT.sIx (x :: xs).length (x :: xs).length (some 1) = 1 := by
    show (if (1 : Int) < 0 then ((1 : Int) + ((x :: xs).length : Int)).toNat else min (1 : Int).toNat (x :: xs).length) = 1
    rw [if_neg (by decide)]
    simp
  rw [e1, HT.sIx_none]
  simp
theorem up_rst (d : Nat) (S : Sto) (v : Va) (vs ws : Vs) (hl : len ws + 1 ≤ 1000) : R (d + 3) 31 [enc (.lis (.cons v vs)), encS .rst, enc (.lis ws)] S = some (.ok (enc (.lis (.cons v ws))), S) := by
  have e1 : uEq (.str "list") (.str "rec") = some false := by kernel_rfl
  have e2 : uEq (.str "list") (.str "case") = some false := by kernel_rfl
  have e3 : uEq (encS .rst) (.str "<") = some false := by kernel_rfl
  have e4 : uEq (.str "list") (.str "list") = some true := by kernel_rfl
  have hh : 1 + len ws ≤ 1000000 := by omega
  rw [stpE (c := c31) rfl rfl (ρ := [.v (enc (.lis (.cons v vs))), .v (encS .rst), .v (enc (.lis ws))]) rfl]
  simp [endU, c31, exB, exS, evE, evEs, evL, evO, evAnd, evOr, bindE, bindO, optO, pureO, nxS, slotU, isiU, asB, asI, uIdx, uSlc, seqOf, L2.atI, L2.ixN, e1, e2, e3, e4, uCmp, uBin, uAdd, uBlt, line, enc, encs, cut01, len_encs, hh]
def isLis : Va → Bool
  | .lis _ => true
  | _ => false
theorem up_rst_no (d : Nat) (S : Sto) (v w : Va) (vs : Vs) (hw : isLis w = false) : R (d + 3) 31 [enc (.lis (.cons v vs)), encS .rst, enc w] S = some (.ok .non, S) := by
  have e1 : uEq (.str "list") (.str "rec") = some false := by kernel_rfl
  have e2 : uEq (.str "list") (.str "case") = some false := by kernel_rfl
  have e3 : uEq (encS .rst) (.str "<") = some false := by kernel_rfl
  have e4 : uEq (.str "rec") (.str "list") = some false := by kernel_rfl
  have e5 : uEq (.str "case") (.str "list") = some false := by kernel_rfl
  rw [stpE (c := c31) rfl rfl (ρ := [.v (enc (.lis (.cons v vs))), .v (encS .rst), .v (enc w)]) rfl]
  cases w with
  | lis ws => cases hw
  | lf l => cases l <;> simp [endU, c31, exB, exS, evE, evEs, evL, evO, evAnd, evOr, bindE, bindO, optO, pureO, nxS, slotU, isiU, asB, asI, uIdx, uSlc, seqOf, L2.atI, L2.ixN, e1, e2, e3, uCmp, uBin, uAdd, uBlt, line, enc, encs, encF]
  | _ => simp [endU, c31, exB, exS, evE, evEs, evL, evO, evAnd, evOr, bindE, bindO, optO, pureO, nxS, slotU, isiU, asB, asI, uIdx, uSlc, seqOf, L2.atI, L2.ixN, e1, e2, e3, e4, e5, uCmp, uBin, uAdd, uBlt, line, enc, encs]
end Pl
end
section
set_option maxRecDepth 100000
set_option maxHeartbeats 400000
namespace Pl
open PySem Wy Core49
/-- the items of a list, if it is one -/
def lenV : Va → Nat
  | .lis vs => len vs
  | _ => 0
def optE : Option Va → U
  | none => .non
  | some w => enc w
theorem step_up_ok (d : Nat) (S : Sto) (v : Va) (s : St) (w : Va) (hs : sub1 v s ≠ none) (h1 : lenV v ≤ 1000) (h2 : lenV w + 1 ≤ 1000) : R (d + 3) 31 [enc v, encS s, enc w] S = some (.ok (optE (up1 v s w)), S) := by
  cases v with
  | lf l => cases s <;> exact absurd rfl hs
  | rc1 n => cases s <;> first | exact absurd rfl hs | exact up_rc1 d S n w
  | rc2 m n => cases s <;> first | exact absurd rfl hs | exact up_rc2m d S m n w | exact up_rc2n d S m n w
  | cas l v => cases s <;> first | exact absurd rfl hs | exact up_cas d S l v w
  | lis vs =>
    cases vs with
    | nil => cases s <;> exact absurd rfl hs
    | cons v vs =>
      cases s with
      | fst => exact up_fst d S v w vs h1
      | rst =>
        cases w with
        | lis ws => exact up_rst d S v vs ws h2
        | lf l => exact up_rst_no d S v _ vs rfl
        | rc1 n => exact up_rst_no d S v _ vs rfl
        | rc2 m n => exact up_rst_no d S v _ vs rfl
        | cas l n => exact up_rst_no d S v _ vs rfl
      | _ => exact absurd rfl hs
end Pl
end
section
set_option maxRecDepth 100000
set_option maxHeartbeats 400000
namespace Pl
open PySem Wy Core49
theorem part1 (v : Va) (s : St) : part v [s] = sub1 v s := by
  unfold part
  cases sub1 v s <;> rfl
theorem uEq_nil (p : List St) : uEq (encP p) (.tup []) = some (decide (p = [])) := by
  cases p with
  | nil => kernel_rfl
  | cons s p =>
    have h : ∀ q : List St, ∃ ds, toPys (q.map encS) = some ds ∧ PyData.canLayAll0 ds = true ∧ PyData.depthAll ds ≤ 0 := fun q => by
      induction q with
      | nil => exact EqOks.nil
      | cons s q ih => exact EqOks.cons (by cases s <;> exact eqok_str (by decide +kernel)) ih
    obtain ⟨ds, e, c1, c2⟩ := h (s :: p)
    have e2 : toPy (encP (s :: p)) = some (.tuple ds) := by
      show (toPys ((s :: p).map encS)).map PyData.tuple = _
      rw [e]; rfl
    have hs : SeqAt.shaped (.tuple ds) = true := by
      unfold SeqAt.shaped
      simp [PyData.canLay0, c1, PyData.depth]
      omega
    have ne : ds ≠ [] := fun z => by
      subst z
      cases hq : toPy (encS s) with
      | none => simp [toPys, hq] at e
      | some d0 =>
        cases hr : toPys (p.map encS) with
        | none => simp [toPys, hq, hr] at e
        | some r => simp [toPys, hq, hr] at e
    cases ds with
    | nil => exact absurd rfl ne
    | cons d0 ds =>
      unfold uEq
      rw [e2]
      have h0 : toPy (.tup []) = some (.tuple []) := rfl
      have h1 : SeqAt.shaped (.tuple []) = true := by decide +kernel
      rw [h0]
      simp only [hs, h1, and_self, if_true]
      simp [PyData.eqv, PyData.eqvAll]
end Pl
end
section
set_option maxRecDepth 100000
set_option maxHeartbeats 400000
namespace Pl
open PySem Wy Core49
theorem len_nods : ∀ vs : Vs, len vs ≤ nods vs
  | .nil => Nat.le_refl _
  | .cons v vs => by
    have h := len_nods vs
    have h2 : 1 ≤ nod v := by cases v <;> simp [nod]
    simp [len, nods]; omega
theorem lenV_nod (v : Va) : lenV v ≤ nod v := by
  cases v with
  | lis vs => have := len_nods vs; simp [lenV, nod]; omega
  | _ => simp [lenV]
theorem nod_sub1 {v c : Va} {s : St} (h : sub1 v s = some c) : nod c ≤ nod v := by
  cases v with
  | lf l => cases s <;> cases h
  | rc1 n => cases s <;> cases h <;> simp [nod]
  | rc2 m n => cases s <;> cases h <;> simp [nod] <;> omega
  | cas l v => cases s <;> cases h <;> simp [nod]
  | lis vs => cases vs <;> cases s <;> cases h <;> simp [nod, nods] <;> omega
theorem nod_up1 {v c i w : Va} {s : St} (h : sub1 v s = some c) (hu : up1 v s i = some w) : nod w + nod c ≤ nod v + nod i := by
  cases v with
  | lf l => cases s <;> cases h
  | rc1 n => cases s <;> cases h <;> cases hu <;> simp [nod] <;> omega
  | rc2 m n => cases s <;> cases h <;> cases hu <;> simp [nod] <;> omega
  | cas l v => cases s <;> cases h <;> cases hu <;> simp [nod] <;> omega
  | lis vs =>
    cases vs with
    | nil => cases s <;> cases h
    | cons v vs =>
      cases s with
      | fst => cases h; cases hu; simp [nod, nods]; omega
      | rst =>
        cases h
        cases i with
        | lis ws => cases hu; simp [nod, nods]; omega
        | _ => cases hu
      | _ => cases h
theorem nod_wth : ∀ {p : List St} {v o w : Va}, wth v p o = some w → nod w ≤ nod v + nod o
  | [], v, o, w, h => by cases h; omega
  | s :: p, v, o, w, h => by
    unfold wth at h
    cases hs : sub1 v s with
    | none => rw [hs] at h; cases h
    | some c =>
      rw [hs] at h
      simp only [Option.bind_some] at h
      cases hi : wth c p o with
      | none => rw [hi] at h; cases h
      | some i =>
        rw [hi] at h
        simp only [Option.bind_some] at h
        have h1 := nod_wth hi
        have h2 := nod_up1 hs h
        omega
end Pl
end
section
set_option maxRecDepth 100000
set_option maxHeartbeats 1000000
namespace Pl
open PySem Wy Core49
def b56 : CB := match c56.body with
  | .cons _ (.cons _ (.cons _ b)) => b
  | _ => .nil
/-- behind the call: by the step -/
theorem rest56 (d : Nat) (S : Sto) (v i : Va) (s : St) (y o : U) (hs : sub1 v s ≠ none) (h1 : lenV v ≤ 1000) (h2 : lenV i + 1 ≤ 1000) : endU (exB (R d) wdU b56 [.v (enc v), .v y, .v o, .v (encS s), .v (enc i), .nil, .nil, .nil] S) = some (.ok (optE (up1 v s i)), S) := by
  have e1 : uEq (.str "rec") (.str "list") = some false := by kernel_rfl
  have e2 : uEq (.str "case") (.str "list") = some false := by kernel_rfl
  have e3 : uEq (.str "list") (.str "list") = some true := by kernel_rfl
  have f : ∀ s, uEq (encS s) (.str "!") = some (decide (s = .bang)) := fun s => by cases s <;> kernel_rfl
  have g : ∀ s, uEq (encS s) (.str "<") = some (decide (s = .fst)) := fun s => by cases s <;> kernel_rfl
  have k : ∀ s, uEq (encS s) (.str ">") = some (decide (s = .rst)) := fun s => by cases s <;> kernel_rfl
  cases v with
  | lf l => cases s <;> exact absurd rfl hs
  | rc1 n => cases s <;> first | exact absurd rfl hs | kernel_rfl
  | rc2 m n => cases s <;> first | exact absurd rfl hs | kernel_rfl
  | cas l v => cases s <;> first | exact absurd rfl hs | kernel_rfl
  | lis vs =>
    cases vs with
    | nil => cases s <;> exact absurd rfl hs
    | cons v vs =>
      cases s with
      | fst =>
        have hh : 1 + len vs ≤ 1000000 := by simp [lenV, len] at h1; omega
        simp [endU, b56, c56, exB, exS, evE, evEs, evL, evO, evAnd, evOr, bindE, bindO, optO, pureO, nxS, slotU, isiU, asB, asI, isNonU, uIdx, uSlc, seqOf, L2.atI, L2.ixN, e1, e2, e3, f, g, k, uCmp, uBin, uAdd, uBlt, line, enc, encs, cut1, cut01, len_encs, hh, up1, optE]
        done
      | rst =>
        cases i with
        | lf l => cases l <;> simp [endU, b56, c56, exB, exS, evE, evEs, evL, evO, evAnd, evOr, bindE, bindO, optO, pureO, nxS, slotU, isiU, asB, asI, isNonU, uIdx, uSlc, seqOf, L2.atI, L2.ixN, e1, e2, e3, f, g, k, uCmp, uBin, uAdd, uBlt, line, enc, encs, encF, up1, optE]
        | lis ws =>
          have hh : 1 + len ws ≤ 1000000 := by simp [lenV] at h2; omega
          simp [endU, b56, c56, exB, exS, evE, evEs, evL, evO, evAnd, evOr, bindE, bindO, optO, pureO, nxS, slotU, isiU, asB, asI, isNonU, uIdx, uSlc, seqOf, L2.atI, L2.ixN, e1, e2, e3, f, g, k, uCmp, uBin, uAdd, uBlt, line, enc, encs, cut1, cut01, len_encs, hh, up1, optE]
        | _ => simp [endU, b56, c56, exB, exS, evE, evEs, evL, evO, evAnd, evOr, bindE, bindO, optO, pureO, nxS, slotU, isiU, asB, asI, isNonU, uIdx, uSlc, seqOf, L2.atI, L2.ixN, e1, e2, e3, f, g, k, uCmp, uBin, uAdd, uBlt, line, enc, encs, up1, optE]
      | _ => exact absurd rfl hs
theorem isNonU_enc (v : Va) : isNonU (enc v) = false := by
  cases v with
  | lf l => cases l <;> rfl
  | _ => rfl
theorem wth_cons (v : Va) (s : St) (p : List St) (o : Va) : wth v (s :: p) o = (sub1 v s).bind fun c => (wth c p o).bind fun i => up1 v s i := rfl
theorem law_with_ok : ∀ (p : List St) (v o : Va) (d : Nat) (S : Sto), part v p ≠ none → nod v + nod o + 1 ≤ 1000 → R (d + p.length + 2) 56 [enc v, encP p, enc o] S = some (.ok (optE (wth v p o)), S)
  | [], v, o, d, S, _, _ => by
    rw [stpE (c := c56) rfl rfl (ρ := [.v (enc v), .v (encP []), .v (enc o), .nil, .nil, .nil, .nil, .nil]) rfl]
    have e := uEq_nil []
    simp [endU, c56, exB, exS, evE, evEs, bindE, bindO, optO, pureO, nxS, slotU, asB, uCmp, e, wth, optE, line]
  | s :: p, v, o, d, S, hp, hn => by
    have hp' : (sub1 v s).bind (fun w => part w p) ≠ none := hp
    cases hs : sub1 v s with
    | none => rw [hs] at hp'; exact absurd rfl hp'
    | some c =>
      rw [hs] at hp'
      have hc := nod_sub1 hs
      have ih := law_with_ok p c o d S hp' (by omega)
      have hl := law_part_ok (d + p.length + 1) S v [s]
      rw [part1, hs] at hl
      have e0 := uEq_nil (s :: p)
      have es : ∀ q : List St, encP q = .tup (q.map encS) := fun _ => rfl
      rw [show d + (s :: p).length + 2 = (d + p.length + 2) + 1 by simp; omega]
      rw [stpE (c := c56) rfl rfl (ρ := [.v (enc v), .v (encP (s :: p)), .v (enc o), .nil, .nil, .nil, .nil, .nil]) rfl]
      have hb : exB (R (d + p.length + 2)) wdU c56.body [.v (enc v), .v (encP (s :: p)), .v (enc o), .nil, .nil, .nil, .nil, .nil] S =
          (match wth c p o with | none => some (.ret .non, S) | some i => exB (R (d + p.length + 2)) wdU b56 [.v (enc v), .v (encP (s :: p)), .v (enc o), .v (encS s), .v (enc i), .nil, .nil, .nil] S) := by
        have a0 : uCmp .eq (encP (s :: p)) (.tup []) = some false := by
          show uEq _ _ = _
          rw [e0]; rfl
        have a1 : uSlc (encP (s :: p)) none (some 1) = some (encP [s]) := by
          show some (U.tup (cutU (encS s :: p.map encS) none (some 1))) = _
          rw [cut01]; rfl
        have a2 : uSlc (encP (s :: p)) (some 1) none = some (encP p) := by
          show some (U.tup (cutU (encS s :: p.map encS) (some 1) none)) = _
          rw [cut1]; rfl
        have a3 : uIdx S (encP (s :: p)) (.int 0) = some (encS s) := by
          simp [uIdx, encP, seqOf, L2.atI, L2.ixN]
        have hl' : R (d + p.length + 2) 54 [enc v, encP [s]] S = some (.ok (enc c), S) := hl
        cases hi : wth c p o with
        | none =>
          rw [hi] at ih
          have ih : R (d + p.length + 2) 56 [enc c, encP p, enc o] S = some (.ok .non, S) := ih
          simp [c56, b56, exB, exS, evE, evEs, evP, evO, bindE, bindO, optO, pureO, nxS, slotU, slotP, asB, asI, isNonU, a0, a1, a2, a3, hl', ih, line]
        | some i =>
          rw [hi] at ih
          have ih : R (d + p.length + 2) 56 [enc c, encP p, enc o] S = some (.ok (enc i), S) := ih
          have hni := isNonU_enc i
          simp [c56, b56, exB, exS, evE, evEs, evP, evO, bindE, bindO, optO, pureO, nxS, slotU, slotP, asB, asI, hni, a0, a1, a2, a3, hl', ih, line]
      rw [hb]
      rw [wth_cons, hs]
      simp only [Option.bind_some]
      cases hi : wth c p o with
      | none => rfl
      | some i =>
        have := nod_wth hi
        have := lenV_nod v
        have := lenV_nod i
        exact rest56 _ S v i s _ _ (by rw [hs]; simp) (by omega) (by omega)
end Pl
end
section
set_option maxRecDepth 100000
set_option maxHeartbeats 1000000
namespace Pl
open PySem Wy Core49
/-- a call that ends so at each depth from k on -/
def Ev (k i : Nat) (us : List U) (S : Sto) (r : UM U) : Prop := ∀ d, k ≤ d → R d i us S = r
theorem Ev.of {k i : Nat} {us : List U} {S : Sto} {r : UM U} (h : ∀ d, R (d + k) i us S = r) : Ev k i us S r := fun d hd => by
  obtain ⟨e, rfl⟩ := Nat.le.dest hd
  rw [Nat.add_comm]; exact h e
theorem Ev.mono {k m i : Nat} {us : List U} {S : Sto} {r : UM U} (h : Ev k i us S r) (e : k ≤ m) : Ev m i us S r := fun d hd => h d (Nat.le_trans e hd)
theorem Ev.body {k i : Nat} {us : List U} {S : Sto} {r : UM U} {c : FDef} {ρ : En} (h : tblD[i]? = some c) (hl : us.length = c.ps.length) (hr : us.map Slot.v ++ List.replicate (c.N.length - us.length) Slot.nil = ρ)
    (hb : ∀ d, k ≤ d → endU (exB (R d) wdU c.body ρ S) = r) : Ev (k + 1) i us S r := fun d hd => by
  cases d with
  | zero => omega
  | succ d => rw [stpE h hl hr]; exact hb d (by omega)
theorem evL_disp (fn : Nat → List U → Sto → UM U) (wd : UM U → UM U) (es : CEs) (ρ : En) (S : Sto) : evL fn wd (.disp es) ρ S = bindO (evEs fn wd es ρ S) fun us S => if us.length ≤ line then pureO us S else none := by simp only [evL]
def vsL : Vs → List Va
  | .nil => []
  | .cons v vs => v :: vsL vs
theorem encs_vsL : ∀ vs, encs vs = (vsL vs).map enc
  | .nil => rfl
  | .cons v vs => by simp [encs, vsL, encs_vsL vs]
def subs : Va → List Va
  | .lf _ => []
  | .rc1 n => [n]
  | .rc2 m n => [m, n]
  | .cas _ v => [v]
  | .lis vs => vsL vs
def isLf : Va → Bool
  | .lf _ => true
  | _ => false
def tot : List (Va × Nat) → Nat
  | [] => 0
  | p :: r => nod p.1 + tot r
theorem tot_app : ∀ a b, tot (a ++ b) = tot a + tot b
  | [], b => by simp [tot]
  | p :: a, b => by simp [tot, tot_app a b]; omega
theorem tot_vs (l : Nat) : ∀ vs, tot ((vsL vs).reverse.map fun v => (v, l)) = nods vs
  | .nil => rfl
  | .cons v vs => by
    have h := tot_vs l vs
    simp only [vsL, nods, List.reverse_cons, List.map_append, tot_app, h, List.map_cons, List.map_nil, tot]
    omega
theorem tot_subs (l : Nat) (v : Va) : tot ((subs v).reverse.map fun v => (v, l)) + 1 = nod v := by
  cases v with
  | lis vs => simp only [subs, tot_vs, nod]
  | _ => simp [subs, tot, nod] <;> omega
theorem mem_vs : ∀ {vs : Vs} {x : Va}, x ∈ vsL vs → lev x ≤ levs vs ∧ nod x ≤ nods vs
  | .nil, x, h => by cases h
  | .cons v vs, x, h => by
    rcases List.mem_cons.mp h with rfl | h
    · exact ⟨by simp [levs]; omega, by simp [nods]⟩
    · have := mem_vs h
      exact ⟨by simp [levs]; omega, by simp [nods]; omega⟩
theorem mem_subs {v x : Va} (h : x ∈ subs v) : lev x + 1 ≤ lev v ∧ nod x + 1 ≤ nod v := by
  cases v with
  | lf l => cases h
  | rc1 n => simp [subs] at h; subst h; simp [lev, nod]
  | rc2 m n => simp [subs] at h; rcases h with rfl | rfl <;> simp [lev, nod] <;> omega
  | cas l v => simp [subs] at h; subst h; simp [lev, nod]
  | lis vs => have := mem_vs (vs := vs) h; simp [lev, nod]; omega
theorem plain_ok (S : Sto) (v : Va) : Ev 2 3 [enc v] S (some (.ok (.bl (isLf v)), S)) := Ev.of fun d => by
  cases v with
  | lf l => cases l <;> kernel_rfl
  | _ => kernel_rfl
theorem parts_ok (S : Sto) (most : Nat) (v : Va) (hv : isLf v = false) (hm : lenV v ≤ most) : Ev 4 5 [enc v, .int most] S (some (.ok (.tup ((subs v).map enc)), S)) := by
  cases v with
  | lf l => cases hv
  | rc1 n => exact Ev.of fun d => by kernel_rfl
  | rc2 m n => exact Ev.of fun d => by kernel_rfl
  | cas l n => exact Ev.of fun d => by cases l <;> kernel_rfl
  | lis vs =>
    refine Ev.body (k := 3) (c := c5) rfl rfl rfl fun d hd => ?_
    have e1 : uEq (.str "list") (.str "fault") = some false := by kernel_rfl
    have e2 : uEq (.str "list") (.str "rec") = some false := by kernel_rfl
    have e3 : uEq (.str "list") (.str "case") = some false := by kernel_rfl
    have e4 : uEq (.str "list") (.str "list") = some true := by kernel_rfl
    have e5 : ¬ (most < len vs) := by simp [lenV] at hm; omega
    have e6 : uEq (.int 2) (.int 2) = some true := by kernel_rfl
    simp [endU, evL_disp, exB, exS, evE, evEs, evO, evT, evP, evAnd, evOr, bindE, bindO, optO, pureO, nxS, optS, slotU, slotP, isiU, asB, asI, isNonU, uIdx, uSlc, seqOf, seqM, L2.atI, L2.ixN, uCmp, uBin, uAdd, uBlt, line, setTg, tup2, ownLen, ownOf, popM, augM, appU, extU, lstOf, frzU, evL, evI, c5, enc, len_encs, e1, e2, e3, e4, e5, e6, subs, ← encs_vsL]
end Pl
namespace Pl
open PySem Wy Core49
theorem compL_map {α : Type} {ev : U → Sto → UM (Option U)} {f : α → U} {g : α → Option U} {S : Sto} : ∀ {xs : List α}, (∀ x ∈ xs, ev (f x) S = some (.ok (g x), S)) → compL ev (xs.map f) S = some (.ok (xs.filterMap g), S)
  | [], _ => rfl
  | x :: xs, h => by
    have ih := compL_map (ev := ev) (f := f) (g := g) (S := S) (xs := xs) fun y hy => h y (List.mem_cons_of_mem _ hy)
    simp only [List.map_cons, compL, h x List.mem_cons_self, ih]
    cases hg : g x <;> simp [List.filterMap_cons, hg]
theorem comp_fil {α : Type} {fn : Nat → List U → Sto → UM U} {elt : CE} {tg : Tg} {it : CI} {c : CO} {own : List (Str × Nat)} {ρ : En} {S : Sto} {xs : List α} (f : α → U) (t : α → Bool) (g : α → U)
    (hi : evI fn wdU it ρ S = some (.ok (xs.map f), S)) (hl : xs.length ≤ line)
    (h : ∀ x ∈ xs, ∃ ρ', setTg tg (f x) (wipeU ρ (own.map (·.2))) = some ρ' ∧ evT fn wdU c ρ' S = some (.ok (t x), S) ∧ (t x = true → evE fn wdU elt ρ' S = some (.ok (g x), S))) :
    evL fn wdU (.comp elt tg it c own) ρ S = some (.ok ((xs.filter t).map g), S) := by
  have hg : (xs.filter t).map g = xs.filterMap fun x => if t x = true then some (g x) else none := by
    clear h hi hl
    induction xs with
    | nil => rfl
    | cons x xs ih => cases hx : t x <;> simp [List.filterMap_cons, hx, ih]
  rw [hg]
  simp only [evL, hi, bindO]
  rw [if_pos (by simpa using hl)]
  refine compL_map (f := f) fun x hx => ?_
  obtain ⟨ρ', h1, h2, h3⟩ := h x hx
  simp only [h1, h2]
  cases ht : t x with
  | false => simp [ht, pureO]
  | true => simp [ht, pureO, h3 ht]
theorem comp_map {α : Type} {fn : Nat → List U → Sto → UM U} {elt : CE} {tg : Tg} {it : CI} {own : List (Str × Nat)} {ρ : En} {S : Sto} {xs : List α} (f : α → U) (g : α → U)
    (hi : evI fn wdU it ρ S = some (.ok (xs.map f), S)) (hl : xs.length ≤ line)
    (h : ∀ x ∈ xs, ∃ ρ', setTg tg (f x) (wipeU ρ (own.map (·.2))) = some ρ' ∧ evE fn wdU elt ρ' S = some (.ok (g x), S)) :
    evL fn wdU (.comp elt tg it .no own) ρ S = some (.ok (xs.map g), S) := by
  have := comp_fil (c := .no) (elt := elt) (tg := tg) (own := own) f (fun _ => true) g hi hl fun x hx => by
    obtain ⟨ρ', h1, h2⟩ := h x hx
    exact ⟨ρ', h1, rfl, fun _ => h2⟩
  rwa [show xs.filter (fun _ => true) = xs from List.filter_eq_self.mpr fun _ _ => rfl] at this
end Pl
end
section
set_option maxRecDepth 100000
set_option maxHeartbeats 1000000
namespace Pl
open PySem Wy Core49
def encK (p : Va × Nat) : U := .tup [enc p.1, .int p.2]
def b6 : CB := match c6.body with
  | .cons _ (.cons (.whl c b) _) => b
  | _ => .nil
abbrev envK (x y z : U) (clean : Bool) (stk : List (Va × Nat)) (many : Nat) (a b c e : Wy.Slot) : En := [.v x, .v y, .v z, .v (.bl clean), .own (stk.map encK).reverse, .v (.int many), a, b, c, e]
theorem notfault (S : Sto) (v : Va) (hv : isLf v = false) : ∃ h, uIdx S (enc v) (.int 0) = some h ∧ uCmp .isin h (.tup [.str "fault", .str "broken"]) = some false := by
  cases v with
  | lf l => cases hv
  | _ => exact ⟨_, rfl, by kernel_rfl⟩
theorem subs_len (v : Va) : (subs v).length ≤ nod v := by
  cases v with
  | lis vs =>
    have h : (vsL vs).length = len vs := by rw [← len_encs, encs_vsL]; simp
    have := len_nods vs
    simp [subs, nod]; omega
  | rc1 n => have : 1 ≤ nod n := by cases n <;> simp [nod]
             simp [subs, nod]
  | rc2 m n => have : 1 ≤ nod n := by cases n <;> simp [nod]
               have : 1 ≤ nod m := by cases m <;> simp [nod]
               simp [subs, nod]; omega
  | _ => simp [subs, nod]
theorem step6 (d : Nat) (hd : 4 ≤ d) (x : U) (most deep : Nat) (clean : Bool) (v : Va) (l : Nat) (stk : List (Va × Nat)) (many : Nat) (a b c e : Wy.Slot) (S : Sto)
    (h1 : many + 1 ≤ 2000) (h2 : l ≤ deep) (h3 : lenV v ≤ most) (h4 : stk.length + nod v ≤ 10000) : ∃ a' b' c' e', exB (R d) wdU b6 (envK x (.int most) (.int deep) clean ((v, l) :: stk) many a b c e) S = some (.nx (envK x (.int most) (.int deep) clean (((subs v).reverse.map fun v => (v, l + 1)) ++ stk) (many + 1) a' b' c' e'), S) := by
  have g1 : ¬ ((2000 : Int) < (many : Int) + 1) := by omega
  have g2 : ¬ (deep < l) := by omega
  have p1 := plain_ok S v d (by omega)
  cases hv : isLf v with
  | true =>
    rw [hv] at p1
    have hs : subs v = [] := by cases v <;> first | rfl | cases hv
    refine ⟨.v (enc v), .v (.int l), c, e, ?_⟩
    simp [endU, evL_disp, exB, exS, evE, evEs, evO, evT, evP, evAnd, evOr, bindE, bindO, optO, pureO, nxS, optS, slotU, slotP, isiU, asB, asI, isNonU, uIdx, uSlc, seqOf, seqM, L2.atI, L2.ixN, uCmp, uBin, uAdd, uBlt, line, setTg, tup2, ownLen, ownOf, popM, augM, appU, extU, lstOf, frzU, evL, evI, b6, c6, envK, encK, p1, g1, g2, hs]
  | false =>
    rw [hv] at p1
    have p2 := parts_ok S most v hv h3 d hd
    obtain ⟨h, q1, q2⟩ := notfault S v hv
    have hl := subs_len v
    have hc := comp_map (fn := R d) (elt := .tup (.cons (.var 9) (.cons (.bin .add (.var 7) (.k (.int 1))) .nil))) (tg := .n 9) (it := .seq (.var 8)) (own := [("part", 9)]) (S := S) (xs := subs v)
      (ρ := [.v x, .v (.int most), .v (.int deep), .v (.bl clean), .own (stk.map encK).reverse, .v (.int (many + 1)), .v (enc v), .v (.int l), .v (.tup ((subs v).map enc)), e])
      enc (fun v => encK (v, l + 1)) (by simp [endU, evL_disp, exB, exS, evE, evEs, evO, evT, evP, evAnd, evOr, bindE, bindO, optO, pureO, nxS, optS, slotU, slotP, isiU, asB, asI, isNonU, uIdx, uSlc, seqOf, seqM, L2.atI, L2.ixN, uCmp, uBin, uAdd, uBlt, line, setTg, tup2, ownLen, ownOf, popM, augM, appU, extU, lstOf, frzU, evL, evI]) (by simp [line]; omega) fun y hy => ⟨_, rfl, by simp [endU, evL_disp, exB, exS, evE, evEs, evO, evT, evP, evAnd, evOr, bindE, bindO, optO, pureO, nxS, optS, slotU, slotP, isiU, asB, asI, isNonU, uIdx, uSlc, seqOf, seqM, L2.atI, L2.ixN, uCmp, uBin, uAdd, uBlt, line, setTg, tup2, ownLen, ownOf, popM, augM, appU, extU, lstOf, frzU, evL, evI, encK, wipeU]⟩
    have g3 : stk.length + (subs v).length ≤ 1000000 := by omega
    refine ⟨.v (enc v), .v (.int l), .v (.tup ((subs v).map enc)), e, ?_⟩
    have u1 : ∀ h, uCmp .gt (.int h) (.int 2000) = some (decide (2000 < h)) := fun _ => rfl
    have u2 : ∀ a b, uCmp .gt (.int a) (.int b) = some (decide (b < a)) := fun _ _ => rfl
    have u3 : ∀ a b, uBin .add (.int a) (.int b) = some (.int (a + b)) := fun _ _ => rfl
    have g2' : ¬ ((deep : Int) < (l : Int)) := by omega
    cases clean <;> simp [endU, exB, exS, evE, evEs, evO, evT, evP, evAnd, evOr, bindE, bindO, optO, pureO, nxS, optS, slotU, slotP, isiU, asB, asI, line, setTg, tup2, ownLen, ownOf, popM, augM, appU, extU, lstOf, b6, c6, envK, encK, p1, p2, g1, g2, u1, u2, u3, hc, q1, q2, isNonU, g3, List.map_reverse]
theorem loop6 (d : Nat) (hd : 4 ≤ d) (x : U) (most deep : Nat) (clean : Bool) (S : Sto) : ∀ (n : Nat) (stk : List (Va × Nat)) (many : Nat) (a b c e : Wy.Slot) (fuel : Nat), tot stk ≤ n → n < fuel → many + n ≤ 2000 → stk.length ≤ 3000 →
    (∀ p ∈ stk, p.2 + lev p.1 ≤ deep + 1 ∧ nod p.1 ≤ most + 1) → ∃ many' a' b' c' e', whlL (evE (R d) wdU (.cmp .gt (.olen 4) (.k (.int 0)))) (exB (R d) wdU b6) fuel (envK x (.int most) (.int deep) clean stk many a b c e) S = some (.nx (envK x (.int most) (.int deep) clean [] many' a' b' c' e'), S) := by
  intro n
  induction n with
  | zero =>
    intro stk many a b c e fuel h1 h2 h3 h4 h5
    cases stk with
    | nil =>
      obtain ⟨f, rfl⟩ : ∃ f, fuel = f + 1 := ⟨fuel - 1, by omega⟩
      exact ⟨many, a, b, c, e, rfl⟩
    | cons p r =>
      have : 1 ≤ nod p.1 := by cases p.1 <;> simp [nod]
      simp [tot] at h1; omega
  | succ n ih =>
    intro stk many a b c e fuel h1 h2 h3 h4 h5
    obtain ⟨f, rfl⟩ : ∃ f, fuel = f + 1 := ⟨fuel - 1, by omega⟩
    cases stk with
    | nil => exact ⟨many, a, b, c, e, rfl⟩
    | cons p r =>
      obtain ⟨v, l⟩ := p
      obtain ⟨k1, k2⟩ := h5 (v, l) List.mem_cons_self
      have k1 : l + lev v ≤ deep + 1 := k1
      have k2 : nod v ≤ most + 1 := k2
      have hlv : 1 ≤ lev v := by cases v <;> simp [lev]
      have hln : lenV v + 1 ≤ nod v := by
        cases v with
        | lis vs => have := len_nods vs; simp [lenV, nod]; omega
        | _ => simp [lenV, nod] <;> omega
      have ht : tot ((v, l) :: r) = nod v + tot r := rfl
      obtain ⟨a', b', c', e', hs⟩ := step6 d hd x most deep clean v l r many a b c e S (by omega) (by omega) (by omega) (by simp at h4; omega)
      have ht2 := tot_subs (l + 1) v
      have hl2 := subs_len v
      have hlt : ∀ s : List (Va × Nat), s.length ≤ tot s := fun s => by
        induction s with
        | nil => simp
        | cons p r ih => have : 1 ≤ nod p.1 := by cases p.1 <;> simp [nod]
                         simp [tot]; omega
      obtain ⟨many', a2, b2, c2, e2, hi⟩ := ih (((subs v).reverse.map fun v => (v, l + 1)) ++ r) (many + 1) a' b' c' e' f (by rw [tot_app]; omega) (by omega) (by omega)
        (Nat.le_trans (hlt _) (by rw [tot_app]; omega)) fun p hp => by
          rcases List.mem_append.mp hp with hp | hp
          · obtain ⟨y, hy, rfl⟩ := List.mem_map.mp hp
            have := mem_subs (List.mem_reverse.mp hy)
            simp only
            omega
          · exact h5 p (List.mem_cons_of_mem _ hp)
      refine ⟨many', a2, b2, c2, e2, ?_⟩
      rw [← hi]
      have hc : evE (R d) wdU (.cmp .gt (.olen 4) (.k (.int 0))) (envK x (.int most) (.int deep) clean ((v, l) :: r) many a b c e) S = some (.ok (.bl true), S) := by
        simp [endU, evL_disp, exB, exS, evE, evEs, evO, evT, evP, evAnd, evOr, bindE, bindO, optO, pureO, nxS, optS, slotU, slotP, isiU, asB, asI, isNonU, uIdx, uSlc, seqOf, seqM, L2.atI, L2.ixN, uCmp, uBin, uAdd, uBlt, line, setTg, tup2, ownLen, ownOf, popM, augM, appU, extU, lstOf, frzU, evL, evI, envK]
      conv => lhs; unfold whlL
      rw [hc]
      simp only [bindE, asB]
      rw [hs]
theorem told_ok (v : Va) (most deep : Nat) (clean : Bool) (S : Sto) (h1 : nod v ≤ most + 1) (h2 : lev v ≤ deep) (h3 : nod v ≤ 1900) : Ev 5 6 [enc v, .int most, .int deep, .bl clean] S (some (.ok (.bl true), S)) := by
  refine Ev.body (k := 4) (c := c6) rfl rfl rfl fun d hd => ?_
  obtain ⟨many', a, b, c, e, h⟩ := loop6 d hd (enc v) most deep clean S (nod v) [(v, 1)] 0 .nil .nil .nil .nil 1000000 (by simp [tot]) (by omega) (by omega) (by simp) (by simp; omega)
  have e : exB (R d) wdU c6.body [.v (enc v), .v (.int most), .v (.int deep), .v (.bl clean), .nil, .nil, .nil, .nil, .nil, .nil] S = (match whlL (evE (R d) wdU (.cmp .gt (.olen 4) (.k (.int 0)))) (exB (R d) wdU b6) 1000000 (envK (enc v) (.int most) (.int deep) clean [(v, 1)] 0 .nil .nil .nil .nil) S with | some (.nx ρ', S') => exB (R d) wdU (.cons (.ret (.k (.bl true))) .nil) ρ' S' | r => r) := by
    rfl
  rw [show List.map Slot.v [enc v, U.int most, U.int deep, U.bl clean] ++ List.replicate (c6.N.length - [enc v, U.int most, U.int deep, U.bl clean].length) Slot.nil = [.v (enc v), .v (.int most), .v (.int deep), .v (.bl clean), .nil, .nil, .nil, .nil, .nil, .nil] from rfl]
  rw [e, h]
  rfl
theorem value_ok (v : Va) (S : Sto) (h1 : nod v ≤ 400) (h2 : lev v ≤ 40) : Ev 6 7 [enc v] S (some (.ok (.bl true), S)) := by
  refine Ev.body (k := 5) (c := c7) rfl rfl rfl fun d hd => ?_
  have := told_ok v 400 40 false S (by omega) h2 (by omega) d hd
  simp [endU, evL_disp, exB, exS, evE, evEs, evO, evT, evP, evAnd, evOr, bindE, bindO, optO, pureO, nxS, optS, slotU, slotP, isiU, asB, asI, isNonU, uIdx, uSlc, seqOf, seqM, L2.atI, L2.ixN, uCmp, uBin, uAdd, uBlt, line, setTg, tup2, ownLen, ownOf, popM, augM, appU, extU, lstOf, frzU, evL, evI, c7] at this ⊢
  simp [this]
theorem given_ok (v : Va) (S : Sto) (h1 : nod v ≤ 41) (h2 : lev v ≤ 12) : Ev 6 8 [enc v] S (some (.ok (.bl true), S)) := by
  refine Ev.body (k := 5) (c := c8) rfl rfl rfl fun d hd => ?_
  have := told_ok v 40 12 true S (by omega) h2 (by omega) d hd
  simp [endU, evL_disp, exB, exS, evE, evEs, evO, evT, evP, evAnd, evOr, bindE, bindO, optO, pureO, nxS, optS, slotU, slotP, isiU, asB, asI, isNonU, uIdx, uSlc, seqOf, seqM, L2.atI, L2.ixN, uCmp, uBin, uAdd, uBlt, line, setTg, tup2, ownLen, ownOf, popM, augM, appU, extU, lstOf, frzU, evL, evI, c8] at this ⊢
  simp [this]
end Pl
end
section
set_option maxRecDepth 100000
set_option maxHeartbeats 1000000
namespace Pl
open PySem Wy Core49
theorem uEq_refl {u : U} (h : EqOk 64 u) : uEq u u = some true := uEq_self h
theorem eqoks_map {α : Type} {n : Nat} {f : α → U} : ∀ {xs : List α}, (∀ x ∈ xs, EqOk n (f x)) → EqOks n (xs.map f)
  | [], _ => .nil
  | x :: xs, h => .cons (h x List.mem_cons_self) (eqoks_map fun y hy => h y (List.mem_cons_of_mem _ hy))
theorem eqok_step (n : Nat) (s : St) : EqOk n (encS s) := by cases s <;> exact eqok_str (by decide +kernel)
theorem eqok_path (n : Nat) (p : List St) : EqOk (n + 1) (encP p) := .tup (eqoks_map fun s _ => eqok_step n s)
theorem bools_true {α : Type} : ∀ xs : List α, bools (xs.map fun _ => U.bl true) = some (xs.map fun _ => true)
  | [] => rfl
  | x :: xs => by simp [bools, bools_true xs]
theorem all_true {α : Type} (xs : List α) : (xs.map fun _ => true).all id = true := by induction xs <;> simp_all
theorem is_step_ok (S : Sto) (s : St) : Ev 2 14 [encS s] S (some (.ok (.bl true), S)) := Ev.of fun d => by cases s <;> kernel_rfl
theorem is_path_ok (S : Sto) (p : List St) (h : p.length ≤ 500) : Ev 3 15 [encP p] S (some (.ok (.bl true), S)) := by
  refine Ev.body (k := 2) (c := c15) rfl rfl rfl fun d hd => ?_
  have hc := comp_map (fn := R d) (elt := .call 14 (.cons (.var 1) .nil)) (tg := .n 1) (it := .seq (.var 0)) (own := [("step", 1)]) (S := S) (xs := p)
      (ρ := [.v (encP p), .nil]) encS (fun _ => .bl true) (by simp [endU, evL_disp, exB, exS, evE, evEs, evO, evT, evP, evAnd, evOr, bindE, bindO, optO, pureO, nxS, optS, slotU, slotP, isiU, asB, asI, isNonU, uIdx, uSlc, seqOf, seqM, L2.atI, L2.ixN, uCmp, uBin, uAdd, uBlt, line, setTg, tup2, ownLen, ownOf, popM, augM, appU, extU, lstOf, frzU, evL, evI, encP]) (by simp [line]; omega) fun y hy => ⟨_, rfl, by
        have := is_step_ok S y d hd
        simp [endU, evL_disp, exB, exS, evE, evEs, evO, evT, evP, evAnd, evOr, bindE, bindO, optO, pureO, nxS, optS, slotU, slotP, isiU, asB, asI, isNonU, uIdx, uSlc, seqOf, seqM, L2.atI, L2.ixN, uCmp, uBin, uAdd, uBlt, line, setTg, tup2, ownLen, ownOf, popM, augM, appU, extU, lstOf, frzU, evL, evI, wipeU, this]⟩
  have hl : uBlt S .len (encP p) = some (.int p.length) := by simp [uBlt, encP, seqOf]
  have hi : isiU .tuple (encP p) = true := rfl
  have u1 : ∀ a b, uCmp .le (.int a) (.int b) = some (decide (a ≤ b)) := fun _ _ => rfl
  have ha : uBlt S .all (.lst (p.map fun _ => U.bl true)) = some (.bl true) := by
    simp only [uBlt, bools_true, Option.map_some, all_true]
  have h' : (p.length : Int) ≤ 500 := by omega
  simp [endU, exB, exS, evE, evEs, evO, evT, evP, evAnd, evOr, bindE, bindO, optO, pureO, nxS, optS, slotU, asB, c15, hc, hl, hi, u1, ha, h']
theorem check_path_ok (S : Sto) (p : List St) (h : p.length ≤ 500) : Ev 4 16 [encP p] S (some (.ok .non, S)) := by
  refine Ev.body (k := 3) (c := c16) rfl rfl rfl fun d hd => ?_
  have := is_path_ok S p h d hd
  simp [endU, evL_disp, exB, exS, evE, evEs, evO, evT, evP, evAnd, evOr, bindE, bindO, optO, pureO, nxS, optS, slotU, slotP, isiU, asB, asI, isNonU, uIdx, uSlc, seqOf, seqM, L2.atI, L2.ixN, uCmp, uBin, uAdd, uBlt, line, setTg, tup2, ownLen, ownOf, popM, augM, appU, extU, lstOf, frzU, evL, evI, c16, this]
theorem check_value_ok (v : Va) (S : Sto) (h1 : nod v ≤ 400) (h2 : lev v ≤ 40) : Ev 7 13 [enc v] S (some (.ok .non, S)) := by
  refine Ev.body (k := 6) (c := c13) rfl rfl rfl fun d hd => ?_
  have := value_ok v S h1 h2 d hd
  simp [endU, evL_disp, exB, exS, evE, evEs, evO, evT, evP, evAnd, evOr, bindE, bindO, optO, pureO, nxS, optS, slotU, slotP, isiU, asB, asI, isNonU, uIdx, uSlc, seqOf, seqM, L2.atI, L2.ixN, uCmp, uBin, uAdd, uBlt, line, setTg, tup2, ownLen, ownOf, popM, augM, appU, extU, lstOf, frzU, evL, evI, c13, this]
theorem head_of_ok (v : Va) (S : Sto) (h1 : nod v ≤ 400) (h2 : lev v ≤ 40) : Ev 8 18 [enc v] S (some (.ok (headOf v), S)) := by
  refine Ev.body (k := 7) (c := c18) rfl rfl rfl fun d hd => ?_
  have h1 := check_value_ok v S h1 h2 d hd
  have h2 := (Ev.of fun d => raw_head_ok d S v) d (by omega)
  simp [endU, evL_disp, exB, exS, evE, evEs, evO, evT, evP, evAnd, evOr, bindE, bindO, optO, pureO, nxS, optS, slotU, slotP, isiU, asB, asI, isNonU, uIdx, uSlc, seqOf, seqM, L2.atI, L2.ixN, uCmp, uBin, uAdd, uBlt, line, setTg, tup2, ownLen, ownOf, popM, augM, appU, extU, lstOf, frzU, evL, evI, c18, h1, h2]
theorem part_at_ok (v : Va) (p : List St) (S : Sto) (h1 : nod v ≤ 400) (h2 : lev v ≤ 40) (h : p.length ≤ 500) : Ev 8 22 [enc v, encP p] S (some (.ok (optE (part v p)), S)) := by
  refine Ev.body (k := 7) (c := c22) rfl rfl rfl fun d hd => ?_
  have h1 := check_value_ok v S h1 h2 d hd
  have h2 := check_path_ok S p h d (by omega)
  have h3 := (Ev.of fun d => raw_part_ok d S v p) d (by omega)
  simp [endU, evL_disp, exB, exS, evE, evEs, evO, evT, evP, evAnd, evOr, bindE, bindO, optO, pureO, nxS, optS, slotU, slotP, isiU, asB, asI, isNonU, uIdx, uSlc, seqOf, seqM, L2.atI, L2.ixN, uCmp, uBin, uAdd, uBlt, line, setTg, tup2, ownLen, ownOf, popM, augM, appU, extU, lstOf, frzU, evL, evI, c22, h1, h2, h3]
  cases part v p <;> rfl
mutual
def paths : Va → List (List St)
  | .lf _ => [[]]
  | .rc1 n => [] :: (paths n).map (.n :: ·)
  | .rc2 m n => [] :: ((paths m).map (.m :: ·) ++ (paths n).map (.n :: ·))
  | .cas _ v => [] :: (paths v).map (.bang :: ·)
  | .lis vs => pathsL vs
def pathsL : Vs → List (List St)
  | .nil => [[]]
  | .cons v vs => [] :: ((paths v).map (.fst :: ·) ++ (pathsL vs).map (.rst :: ·))
end
def kids : Va → List (St × Va)
  | .lf _ => []
  | .rc1 n => [(.n, n)]
  | .rc2 m n => [(.m, m), (.n, n)]
  | .cas _ v => [(.bang, v)]
  | .lis .nil => []
  | .lis (.cons v vs) => [(.fst, v), (.rst, .lis vs)]
theorem paths_kids (v : Va) : paths v = [] :: (kids v).flatMap fun k => (paths k.2).map (k.1 :: ·) := by
  cases v with
  | lis vs => cases vs <;> simp [paths, pathsL, kids]
  | _ => simp [paths, kids]
theorem steps_kids (v : Va) : stepsOf v = (kids v).map (·.1) := by
  cases v with
  | lis vs => cases vs <;> rfl
  | _ => rfl
theorem sub_kids {v w : Va} {s : St} (h : (s, w) ∈ kids v) : sub1 v s = some w := by
  cases v with
  | lis vs =>
    cases vs with
    | nil => simp [kids] at h
    | cons v vs => simp [kids] at h; rcases h with ⟨rfl, rfl⟩ | ⟨rfl, rfl⟩ <;> rfl
  | lf l => simp [kids] at h
  | rc1 n => simp [kids] at h; rcases h with ⟨rfl, rfl⟩; rfl
  | rc2 m n => simp [kids] at h; rcases h with ⟨rfl, rfl⟩ | ⟨rfl, rfl⟩ <;> rfl
  | cas l n => simp [kids] at h; rcases h with ⟨rfl, rfl⟩; rfl
theorem nod_pos (v : Va) : 1 ≤ nod v := by cases v <;> simp [nod]
theorem nod_kids {v w : Va} {s : St} (h : (s, w) ∈ kids v) : nod w + 1 ≤ nod v := by
  cases v with
  | lis vs =>
    cases vs with
    | nil => simp [kids] at h
    | cons v vs => have := nod_pos v; simp [kids] at h; rcases h with ⟨rfl, rfl⟩ | ⟨rfl, rfl⟩ <;> simp [nod, nods] <;> omega
  | lf l => simp [kids] at h
  | rc1 n => simp [kids] at h; rcases h with ⟨rfl, rfl⟩; simp [nod]
  | rc2 m n => simp [kids] at h; rcases h with ⟨rfl, rfl⟩ | ⟨rfl, rfl⟩ <;> simp [nod] <;> omega
  | cas l n => simp [kids] at h; rcases h with ⟨rfl, rfl⟩; simp [nod]
abbrev np (v : Va) : Nat := (paths v).length
theorem np_nod : ∀ n v, nod v ≤ n → np v + 1 ≤ 2 * nod v := by
  intro n
  induction n with
  | zero => intro v h; have := nod_pos v; omega
  | succ n ih =>
    intro v h
    cases v with
    | lf l => simp [np, paths, nod]
    | rc1 a => have := ih a (by simp [nod] at h; omega); simp [np, paths, nod] at *; omega
    | rc2 a b =>
      have h1 := ih a (by simp [nod] at h; omega)
      have h2 := ih b (by simp [nod] at h; omega)
      simp [np, paths, nod] at *; omega
    | cas l a => have := ih a (by simp [nod] at h; omega); simp [np, paths, nod] at *; omega
    | lis vs =>
      cases vs with
      | nil => simp [np, paths, pathsL, nod, nods]
      | cons a vs =>
        have := nod_pos a
        have h1 := ih a (by simp [nod, nods] at h; omega)
        have h2 := ih (.lis vs) (by simp [nod, nods] at h ⊢; omega)
        simp [np, paths, pathsL, nod, nods] at *; omega
end Pl
end
section
set_option maxRecDepth 100000
set_option maxHeartbeats 1000000
namespace Pl
open PySem Wy Core49
def encQ (q : List St × Va) : U := .tup [encP q.1, enc q.2]
def b23 : CB := match c23.body with
  | .cons _ (.cons _ (.cons (.whl c b) _)) => b
  | _ => .nil
def i23 : CB := (.cons (.app 2 (.tup (.cons (.bin .add (.var 3) (.tup (.cons (.var 5) .nil))) (.cons (.call 20 (.cons (.var 4) (.cons (.var 5) .nil))) .nil)))) .nil)
theorem getLast?_app {α : Type} (xs : List α) (x : α) : (xs ++ [x]).getLast? = some x := by simp
theorem inner23 (d : Nat) (hd : 1 ≤ d) (S : Sto) (v : Va) (x : U) (fd : List U) (p : List St) (hp : p.length ≤ 900) : ∀ (ks : List (St × Va)) (L : List U) (e : Wy.Slot), (∀ k ∈ ks, k ∈ kids v) → L.length + ks.length ≤ 900000 →
    ∃ e', forL (.n 5) (exB (R d) wdU i23) (ks.map fun k => encS k.1) [.v x, .own fd, .own L, .v (encP p), .v (enc v), e] S = some (.nx [.v x, .own fd, .own (L ++ ks.map fun k => encQ (p ++ [k.1], k.2)), .v (encP p), .v (enc v), e'], S)
  | [], L, e, _, _ => ⟨e, by simp [forL, nxS]⟩
  | k :: ks, L, e, hk, hL => by
    obtain ⟨e', ih⟩ := inner23 d hd S v x fd p hp ks (L ++ [encQ (p ++ [k.1], k.2)]) (.v (encS k.1)) (fun y hy => hk y (List.mem_cons_of_mem _ hy)) (by simp at hL ⊢; omega)
    refine ⟨e', ?_⟩
    have h1 := (Ev.of fun d => part_by_ok d S v k.1 k.2 (sub_kids (hk k List.mem_cons_self))) d hd
    have hb : uBin .add (encP p) (.tup [encS k.1]) = some (encP (p ++ [k.1])) := by
      have : p.length + 1 ≤ 1000000 := by omega
      simp [uBin, encP, uAdd, line, this]
    have hl : L.length < 1000000 := by simp at hL; omega
    have st : exB (R d) wdU i23 [.v x, .own fd, .own L, .v (encP p), .v (enc v), .v (encS k.1)] S = some (.nx [.v x, .own fd, .own (L ++ [encQ (p ++ [k.1], k.2)]), .v (encP p), .v (enc v), .v (encS k.1)], S) := by
      simp [endU, exB, exS, evE, evEs, evO, evT, bindE, bindO, optO, pureO, nxS, slotU, ownOf, appU, line, i23, h1, hb, hl, encQ]
    simp only [List.map_cons]
    conv => lhs; unfold forL
    simp only [setTg, List.set_cons_succ, List.set_cons_zero]
    rw [st]
    simp only
    rw [ih]
    simp
abbrev env23 (x : U) (fd : List (List St)) (stk : List (List St × Va)) (a b c : Wy.Slot) : En := [.v x, .own (fd.map encP), .own (stk.map encQ).reverse, a, b, c]
def totP : List (List St × Va) → Nat
  | [] => 0
  | q :: r => np q.2 + totP r
theorem step23 (d : Nat) (hd : 1 ≤ d) (S : Sto) (x : U) (fd : List (List St)) (p : List St) (v : Va) (stk : List (List St × Va)) (a b c : Wy.Slot) (hp : p.length ≤ 900) (hf : fd.length ≤ 900) (hs : stk.length ≤ 800000) :
    ∃ a' b' c', exB (R d) wdU b23 (env23 x fd ((p, v) :: stk) a b c) S = some (.nx (env23 x (fd ++ [p]) (((kids v).map fun k => (p ++ [k.1], k.2)) ++ stk) a' b' c'), S) := by
  have h1 := (Ev.of fun d => raw_head_ok d S v) d hd
  have h2 := (Ev.of fun d => raw_steps_ok d S v) d hd
  have hk : (kids v).length ≤ 2 := by
    cases v with
    | lis vs => cases vs <;> simp [kids]
    | _ => simp [kids]
  obtain ⟨e', h3⟩ := inner23 d hd S v x ((fd ++ [p]).map encP) p hp (kids v).reverse (stk.map encQ).reverse c (fun y hy => List.mem_reverse.mp hy) (by simp; omega)
  have hr : uRev (encP (stepsOf v)) = some (.tup ((kids v).reverse.map fun k => encS k.1)) := by
    simp [uRev, encP, steps_kids, List.map_reverse, Function.comp_def]
  have hl : (fd.map encP).length < 1000000 := by simp; omega
  refine ⟨.v (encP p), .v (enc v), e', ?_⟩
  simp only [List.map_append, List.map_cons, List.map_nil, List.map_reverse] at h3
  rw [show b23 = (.cons (.popU (.t2 3 4) 2) (.cons (.app 1 (.var 3)) (.cons (.for_ (.n 5) (.seq (.rev (.call 19 (.cons (.call 17 (.cons (.var 4) .nil)) .nil)))) i23) .nil))) from rfl]
  simp only [env23]
  have hl' : fd.length < 1000000 := by omega
  simp [endU, exB, exS, evE, evEs, evI, seqM, bindE, bindO, optO, pureO, nxS, optS, slotU, ownOf, appU, popM, setTg, tup2, line, encQ, h1, h2, hr, hl', h3, List.map_reverse, Function.comp_def]
theorem loop23 (d : Nat) (hd : 1 ≤ d) (S : Sto) (x : U) : ∀ (n : Nat) (stk : List (List St × Va)) (fd : List (List St)) (a b c : Wy.Slot) (fuel : Nat), totP stk ≤ n → n < fuel → fd.length + n ≤ 900 → (∀ q ∈ stk, q.1.length + np q.2 ≤ 900) →
    ∃ a' b' c', whlL (evE (R d) wdU (.cmp .gt (.olen 2) (.k (.int 0)))) (exB (R d) wdU b23) fuel (env23 x fd stk a b c) S = some (.nx (env23 x (fd ++ stk.flatMap fun q => (paths q.2).map (q.1 ++ ·)) [] a' b' c'), S) := by
  intro n
  induction n with
  | zero =>
    intro stk fd a b c fuel h1 h2 h3 h4
    cases stk with
    | nil =>
      obtain ⟨f, rfl⟩ : ∃ f, fuel = f + 1 := ⟨fuel - 1, by omega⟩
      exact ⟨a, b, c, by simp; rfl⟩
    | cons q r =>
      have : 1 ≤ np q.2 := by unfold np; rw [paths_kids]; simp
      simp only [totP] at h1; omega
  | succ n ih =>
    intro stk fd a b c fuel h1 h2 h3 h4
    obtain ⟨f, rfl⟩ : ∃ f, fuel = f + 1 := ⟨fuel - 1, by omega⟩
    cases stk with
    | nil => exact ⟨a, b, c, by simp; rfl⟩
    | cons q r =>
      obtain ⟨p, v⟩ := q
      have k1 : p.length + np v ≤ 900 := h4 (p, v) List.mem_cons_self
      have ht : totP ((p, v) :: r) = np v + totP r := rfl
      have hlt : ∀ s : List (List St × Va), s.length ≤ totP s := fun s => by
        induction s with
        | nil => simp
        | cons q r ih => have : 1 ≤ np q.2 := by unfold np; rw [paths_kids]; simp
                         simp only [totP, List.length_cons]; omega
      have hlr := hlt r
      obtain ⟨a', b', c', hs⟩ := step23 d hd S x fd p v r a b c (by omega) (by omega) (by omega)
      have hkt : ∀ (ks : List (St × Va)) (r : List (List St × Va)), totP ((ks.map fun k => (p ++ [k.1], k.2)) ++ r) = (ks.flatMap fun k => (paths k.2).map (k.1 :: ·)).length + totP r := fun ks r => by
        induction ks with
        | nil => simp
        | cons k ks ih => simp only [List.map_cons, List.cons_append, totP, ih, List.flatMap_cons, List.length_append, List.length_map, np]; omega
      have hnv : np v = 1 + ((kids v).flatMap fun k => (paths k.2).map (k.1 :: ·)).length := by
        unfold np; rw [paths_kids v]; simp only [List.length_cons]; omega
      have hkm : ∀ (ks : List (St × Va)) (k : St × Va), k ∈ ks → np k.2 ≤ (ks.flatMap fun k => (paths k.2).map (k.1 :: ·)).length := fun ks k hk => by
        induction ks with
        | nil => cases hk
        | cons y ks ih =>
          simp only [List.flatMap_cons, List.length_append, List.length_map]
          rcases List.mem_cons.mp hk with rfl | hk
          · exact Nat.le_add_right _ _
          · have := ih hk; unfold np at this ⊢; omega
      obtain ⟨a2, b2, c2, hi⟩ := ih (((kids v).map fun k => (p ++ [k.1], k.2)) ++ r) (fd ++ [p]) a' b' c' f (by rw [hkt]; omega) (by omega) (by simp; omega) fun q hq => by
          rcases List.mem_append.mp hq with hq | hq
          · obtain ⟨k, hk, rfl⟩ := List.mem_map.mp hq
            have := hkm _ k hk
            simp only [List.length_append, List.length_cons, List.length_nil]
            omega
          · exact h4 q (List.mem_cons_of_mem _ hq)
      refine ⟨a2, b2, c2, ?_⟩
      have hout : fd ++ ((p, v) :: r).flatMap (fun q => (paths q.2).map (q.1 ++ ·)) = (fd ++ [p]) ++ (((kids v).map fun k => (p ++ [k.1], k.2)) ++ r).flatMap fun q => (paths q.2).map (q.1 ++ ·) := by
        simp only [List.flatMap_cons, List.flatMap_append]
        rw [paths_kids v]
        have : ∀ ks : List (St × Va), (ks.flatMap fun k => (paths k.2).map (k.1 :: ·)).map (p ++ ·) = (ks.map fun k => (p ++ [k.1], k.2)).flatMap fun q => (paths q.2).map (q.1 ++ ·) := fun ks => by
          induction ks with
          | nil => rfl
          | cons k ks ih => simp only [List.flatMap_cons, List.map_append, ih, List.map_cons, List.map_map]; congr 1; simp
        simp [this]
      rw [hout, ← hi]
      have hc : evE (R d) wdU (.cmp .gt (.olen 2) (.k (.int 0))) (env23 x fd ((p, v) :: r) a b c) S = some (.ok (.bl true), S) := by
        simp [endU, evL_disp, exB, exS, evE, evEs, evO, evT, evP, evAnd, evOr, bindE, bindO, optO, pureO, nxS, optS, slotU, slotP, isiU, asB, asI, isNonU, uIdx, uSlc, seqOf, seqM, L2.atI, L2.ixN, uCmp, uBin, uAdd, uBlt, line, setTg, tup2, ownLen, ownOf, popM, augM, appU, extU, lstOf, frzU, evL, evI, env23]
      conv => lhs; unfold whlL
      rw [hc]
      simp only [bindE, asB]
      rw [hs]
theorem all_paths_ok (v : Va) (S : Sto) (h1 : nod v ≤ 400) (h2 : lev v ≤ 40) : Ev 8 23 [enc v] S (some (.ok (.tup ((paths v).map encP)), S)) := by
  refine Ev.body (k := 7) (c := c23) (ρ := [.v (enc v), .nil, .nil, .nil, .nil, .nil]) rfl rfl rfl fun d hd => ?_
  have hn := np_nod _ v (Nat.le_refl _)
  obtain ⟨a, b, c, h⟩ := loop23 d (by omega) S (enc v) (np v) [([], v)] [] .nil .nil .nil 1000000 (by simp [totP]) (by omega) (by simp; omega) (by simp; omega)
  have hv := check_value_ok v S h1 h2 d hd
  have e : exB (R d) wdU c23.body [.v (enc v), .nil, .nil, .nil, .nil, .nil] S = (match R d 13 [enc v] S with | some (.ok _, S) => (match whlL (evE (R d) wdU (.cmp .gt (.olen 2) (.k (.int 0)))) (exB (R d) wdU b23) 1000000 (env23 (enc v) [] [([], v)] .nil .nil .nil) S with | some (.nx ρ', S') => exB (R d) wdU (.cons (.frz 1) (.cons (.ret (.blt .tuple (.var 1))) .nil)) ρ' S' | r => r) | some (.err c, S) => some (.err c, S) | none => none) := by
    simp only [c23, exB, exS, evE, evEs, evP, evL, bindE, bindO, pureO, slotU, optO, List.getElem?_cons_zero]
    cases R d 13 [enc v] S with
    | none => rfl
    | some r =>
      obtain ⟨o, S'⟩ := r
      cases o <;> rfl
  rw [e, hv]
  simp only
  rw [h]
  simp [endU, evL_disp, exB, exS, evE, evEs, evO, evT, evP, evAnd, evOr, bindE, bindO, optO, pureO, nxS, optS, slotU, slotP, isiU, asB, asI, isNonU, uIdx, uSlc, seqOf, seqM, L2.atI, L2.ixN, uCmp, uBin, uAdd, uBlt, line, setTg, tup2, ownLen, ownOf, popM, augM, appU, extU, lstOf, frzU, evL, evI]
end Pl
end
section
set_option maxRecDepth 100000
set_option maxHeartbeats 1000000
namespace Pl
open PySem Wy Core49
theorem add_path (s : St) (p : List St) (h : p.length ≤ 900) : uBin .add (.tup [encS s]) (encP p) = some (encP (s :: p)) := by
  have : 1 + p.length ≤ 1000000 := by omega
  simp [uBin, encP, uAdd, line, this]
theorem add_lst (a b : List U) (h : a.length + b.length ≤ 1000000) : uBin .add (.lst a) (.lst b) = some (.lst (a ++ b)) := by
  simp [uBin, uAdd, line, h]
theorem dot_m : uBin .add (.str ".") (.str "m") = some (encS .m) := by kernel_rfl
theorem dot_n : uBin .add (.str ".") (.str "n") = some (encS .n) := by kernel_rfl
theorem path_np {v : Va} : ∀ {n : Nat}, nod v ≤ n → ∀ p ∈ paths v, p.length < nod v := by
  intro n
  induction n generalizing v with
  | zero => intro h; have := nod_pos v; omega
  | succ n ih =>
    intro h p hp
    rw [paths_kids] at hp
    rcases List.mem_cons.mp hp with rfl | hp
    · have := nod_pos v; simp; omega
    · obtain ⟨k, hk, hp⟩ := List.mem_flatMap.mp hp
      obtain ⟨q, hq, rfl⟩ := List.mem_map.mp hp
      have h1 := nod_kids (s := k.1) (w := k.2) hk
      have := ih (v := k.2) (by omega) q hq
      simp; omega
theorem comp55 (d : Nat) (S : Sto) (w : Va) (s : St) (e a : CE) (ρ : En) (hn : nod w ≤ 400) (ha : evE (R d) wdU a ρ S = some (.ok (enc w), S)) (hi : R d 55 [enc w] S = some (.ok (.lst ((paths w).map encP)), S))
    (hr : ∃ x0 x1 x2 x3 x4, ρ = [x0, x1, x2, x3, x4] ∧ ∀ y, evE (R d) wdU e [x0, x1, x2, x3, y] S = some (.ok (encS s), S)) :
    evL (R d) wdU (.comp (.bin .add (.tup (.cons e .nil)) (.var 4)) (.n 4) (.seq (.call 55 (.cons a .nil))) .no [("path", 4)]) ρ S = some (.ok ((paths w).map fun p => encP (s :: p)), S) := by
  obtain ⟨x0, x1, x2, x3, x4, rfl, he⟩ := hr
  have hp := np_nod _ w (Nat.le_refl _)
  refine comp_map encP (fun p => encP (s :: p)) ?_ (by simp [line]; unfold np at hp; omega) fun p hp => ⟨_, rfl, ?_⟩
  · simp [evI, evE, evEs, ha, hi, bindO, pureO, seqM]
  · have h0 := path_np (Nat.le_refl _) p hp
    have h1 := add_path s p (by omega)
    have h2 := he (.v (encP p))
    simp [evE, evEs, wipeU, h1, h2, bindO, optO, pureO, slotU, line]
theorem law_paths_ok : ∀ (n : Nat) (v : Va) (S : Sto), nod v ≤ n → n ≤ 400 → Ev (nod v) 55 [enc v] S (some (.ok (.lst ((paths v).map encP)), S)) := by
  intro n
  induction n with
  | zero => intro v S h; have := nod_pos v; omega
  | succ n ih =>
    intro v S h hn
    obtain ⟨k, hk⟩ : ∃ k, nod v = k + 1 := ⟨nod v - 1, by have := nod_pos v; omega⟩
    rw [hk]
    refine Ev.body (k := k) (c := c55) (ρ := [.v (enc v), .nil, .nil, .nil, .nil]) rfl rfl rfl fun d hd => ?_
    have rec_ : ∀ w s, (s, w) ∈ kids v → nod w ≤ 400 ∧ np w ≤ 900 ∧ R d 55 [enc w] S = some (.ok (.lst ((paths w).map encP)), S) := fun w s hw => by
      have h1 := nod_kids hw
      have h2 := np_nod _ w (Nat.le_refl _)
      exact ⟨by omega, by omega, ih w S (by omega) (by omega) d (by omega)⟩
    have e1 : uEq (.str "list") (.str "rec") = some false := by kernel_rfl
    have e2 : uEq (.str "list") (.str "case") = some false := by kernel_rfl
    have e3 : uEq (.str "rec") (.str "rec") = some true := by kernel_rfl
    have e4 : uEq (.str "case") (.str "rec") = some false := by kernel_rfl
    have e5 : uEq (.str "case") (.str "case") = some true := by kernel_rfl
    have u1 : ∀ a b, uCmp .eq a b = uEq a b := fun _ _ => rfl
    cases v with
    | lf l => cases l <;> rfl
    | rc1 a =>
      obtain ⟨q1, q2, q3⟩ := rec_ a .n (by simp [kids])
      have hc := comp55 d S a .n (.bin .add (.k (.str ".")) (.var 2)) (.var 3) [.v (enc (.rc1 a)), .v (.lst [.tup []]), .v (.str "n"), .v (enc a), .nil] q1 rfl q3 ⟨_, _, _, _, _, rfl, fun y => by simp [evE, bindO, pureO, slotU, optO, dot_n]⟩
      have hl := add_lst [.tup []] ((paths a).map fun p => encP (.n :: p)) (by simp; unfold np at q2; omega)
      have i0 : uIdx S (enc (.rc1 a)) (.int 0) = some (.str "rec") := rfl
      have i1 : uIdx S (enc (.rc1 a)) (.int 1) = some (.tup [.tup [.str "n", enc a]]) := rfl
      have i2 : isiU .tuple (enc (.rc1 a)) = true := rfl
      simp [endU, evL_disp, exB, exS, evE, evEs, evI, seqM, bindE, bindO, optO, pureO, nxS, slotU, asB, setTg, tup2, forL, c55, e3, u1, i0, i1, i2, line, hc, hl]
      simp [paths, encP, Function.comp_def]
    | rc2 a b =>
      obtain ⟨q1, q2, q3⟩ := rec_ a .m (by simp [kids])
      obtain ⟨r1, r2, r3⟩ := rec_ b .n (by simp [kids])
      have hc := comp55 d S a .m (.bin .add (.k (.str ".")) (.var 2)) (.var 3) [.v (enc (.rc2 a b)), .v (.lst [.tup []]), .v (.str "m"), .v (enc a), .nil] q1 rfl q3 ⟨_, _, _, _, _, rfl, fun y => by simp [evE, bindO, pureO, slotU, optO, dot_m]⟩
      have hc2 := comp55 d S b .n (.bin .add (.k (.str ".")) (.var 2)) (.var 3) [.v (enc (.rc2 a b)), .v (.lst (.tup [] :: (paths a).map fun p => encP (.m :: p))), .v (.str "n"), .v (enc b), .nil] r1 rfl r3 ⟨_, _, _, _, _, rfl, fun y => by simp [evE, bindO, pureO, slotU, optO, dot_n]⟩
      have hl := add_lst [.tup []] ((paths a).map fun p => encP (.m :: p)) (by simp; unfold np at q2; omega)
      have hl2 := add_lst (.tup [] :: (paths a).map fun p => encP (.m :: p)) ((paths b).map fun p => encP (.n :: p)) (by simp; unfold np at q2 r2; omega)
      have i0 : uIdx S (enc (.rc2 a b)) (.int 0) = some (.str "rec") := rfl
      have i1 : uIdx S (enc (.rc2 a b)) (.int 1) = some (.tup [.tup [.str "m", enc a], .tup [.str "n", enc b]]) := rfl
      have i2 : isiU .tuple (enc (.rc2 a b)) = true := rfl
      simp [endU, evL_disp, exB, exS, evE, evEs, evI, seqM, bindE, bindO, optO, pureO, nxS, slotU, asB, setTg, tup2, forL, c55, e3, u1, i0, i1, i2, line, hc, hl, hc2, hl2]
      simp [paths, encP, Function.comp_def]
    | cas l a =>
      obtain ⟨q1, q2, q3⟩ := rec_ a .bang (by simp [kids])
      have i3 : uIdx S (enc (.cas l a)) (.int 2) = some (enc a) := rfl
      have hc := comp55 d S a .bang (.k (.str "!")) (.sub (.var 0) (.k (.int 2))) [.v (enc (.cas l a)), .v (.lst [.tup []]), .nil, .nil, .nil] q1 (by simp [evE, bindO, pureO, slotU, optO, i3]) q3 ⟨_, _, _, _, _, rfl, fun y => rfl⟩
      have hl := add_lst [.tup []] ((paths a).map fun p => encP (.bang :: p)) (by simp; unfold np at q2; omega)
      have i0 : uIdx S (enc (.cas l a)) (.int 0) = some (.str "case") := rfl
      have i2 : isiU .tuple (enc (.cas l a)) = true := rfl
      simp [endU, evL_disp, exB, exS, evE, evEs, evI, seqM, bindE, bindO, optO, pureO, nxS, slotU, asB, c55, e4, e5, u1, i0, i2, line, hc, hl]
      simp [paths, encP, Function.comp_def]
    | lis vs =>
      have i0 : uIdx S (enc (.lis vs)) (.int 0) = some (.str "list") := rfl
      have i1 : uIdx S (enc (.lis vs)) (.int 1) = some (.tup (encs vs)) := rfl
      have i2 : isiU .tuple (enc (.lis vs)) = true := rfl
      have u2 : ∀ a b, uCmp .gt (.int a) (.int b) = some (decide (b < a)) := fun _ _ => rfl
      have u3 : ∀ a, uBlt S .len (.tup a) = some (.int a.length) := fun _ => rfl
      cases vs with
      | nil => simp [endU, evL_disp, exB, exS, evE, evEs, evI, seqM, bindE, bindO, optO, pureO, nxS, slotU, asB, c55, e1, e2, u1, u2, u3, i0, i1, i2, line, paths, pathsL, encP, encs]
      | cons a vs =>
        obtain ⟨q1, q2, q3⟩ := rec_ a .fst (by simp [kids])
        obtain ⟨r1, r2, r3⟩ := rec_ (.lis vs) .rst (by simp [kids])
        have hz : 0 < (encs (.cons a vs)).length := by simp [encs]
        have i3 : uIdx S (.tup (encs (.cons a vs))) (.int 0) = some (enc a) := by simp [encs, uIdx, seqOf, L2.atI, L2.ixN]
        have i4 : uSlc (.tup (encs (.cons a vs))) (some 1) none = some (.tup (encs vs)) := by
          show some (U.tup (cutU (enc a :: encs vs) (some 1) none)) = _
          rw [cut1]
        have hc := comp55 d S a .fst (.k (.str "<")) (.sub (.sub (.var 0) (.k (.int 1))) (.k (.int 0))) [.v (enc (.lis (.cons a vs))), .v (.lst [.tup []]), .nil, .nil, .nil] q1 (by simp [evE, bindO, pureO, slotU, optO, i1, i3]) q3 ⟨_, _, _, _, _, rfl, fun y => rfl⟩
        have hc2 := comp55 d S (.lis vs) .rst (.k (.str ">")) (.tup (.cons (.k (.str "list")) (.cons (.slc (.sub (.var 0) (.k (.int 1))) (.so (.k (.int 1))) .no) .nil))) [.v (enc (.lis (.cons a vs))), .v (.lst (.tup [] :: (paths a).map fun p => encP (.fst :: p))), .nil, .nil, .nil] r1 (by simp [evE, evEs, evO, asI, bindO, pureO, slotU, optO, i1, i4, line]; rfl) r3 ⟨_, _, _, _, _, rfl, fun y => rfl⟩
        have hl := add_lst [.tup []] ((paths a).map fun p => encP (.fst :: p)) (by simp; unfold np at q2; omega)
        have hl2 := add_lst (.tup [] :: (paths a).map fun p => encP (.fst :: p)) ((paths (.lis vs)).map fun p => encP (.rst :: p)) (by simp; unfold np at q2 r2; omega)
        simp [endU, evL_disp, exB, exS, evE, evEs, evI, seqM, bindE, bindO, optO, pureO, nxS, slotU, asB, c55, e1, e2, u1, u2, u3, hz, i0, i1, i2, line, hc, hl, hc2, hl2]
        simp [paths, pathsL, encP, Function.comp_def]
end Pl
end
section
set_option maxRecDepth 100000
set_option maxHeartbeats 1000000
namespace Pl
open PySem Wy Core49
def ways : Va → List St → List Va
  | _, [] => []
  | v, s :: p => v :: (match sub1 v s with | some c => ways c p | none => [])
theorem part_cons (v : Va) (s : St) (p : List St) : part v (s :: p) = (sub1 v s).bind fun c => part c p := rfl
theorem wth_of_part : ∀ {p : List St} {v o : Va}, part v p = none → wth v p o = none
  | [], v, o, h => by cases h
  | s :: p, v, o, h => by
    rw [part_cons] at h
    rw [wth_cons]
    cases hs : sub1 v s with
    | none => rfl
    | some c =>
      rw [hs] at h
      have := wth_of_part (p := p) (v := c) (o := o) h
      simp only [Option.bind_some, this, Option.bind_none]
def a32 : CB := match c32.body with
  | .cons _ (.cons (.for_ _ _ b) _) => b
  | _ => .nil
def b32 : CB := match c32.body with
  | .cons _ (.cons _ (.cons _ (.cons (.for_ _ _ b) _))) => b
  | _ => .nil
theorem way_step (d : Nat) (hd : 3 ≤ d) (S : Sto) (P o : U) (v : Va) (s : St) (W : List Va) (s5 : Wy.Slot) (hW : W.length ≤ 900) : exB (R d) wdU a32 [.v (enc v), .v P, .v o, .own (W.map enc), .v (encS s), s5] S =
    (match sub1 v s with | none => some (.ret .non, S) | some c => some (.nx [.v (enc c), .v P, .v o, .own ((W ++ [v]).map enc), .v (encS s), s5], S)) := by
  have h1 := (Ev.of fun d => step_down_ok d S v s) d (by omega)
  have hl : W.length < 1000000 := by omega
  cases hs : sub1 v s with
  | none =>
    rw [hs] at h1
    simp [endU, evL_disp, exB, exS, evE, evEs, evO, evT, evP, evAnd, evOr, bindE, bindO, optO, pureO, nxS, optS, slotU, slotP, isiU, asB, asI, isNonU, uIdx, uSlc, seqOf, seqM, L2.atI, L2.ixN, uCmp, uBin, uAdd, uBlt, line, setTg, tup2, ownLen, ownOf, popM, augM, appU, extU, lstOf, frzU, a32, c32, h1, hl]
  | some c =>
    rw [hs] at h1
    have hn := isNonU_enc c
    simp [endU, exB, exS, evE, evEs, bindE, bindO, optO, pureO, nxS, slotU, asB, ownOf, appU, line, a32, c32, h1, hl, hn]
theorem way_loop (d : Nat) (hd : 3 ≤ d) (S : Sto) (P o : U) (s5 : Wy.Slot) (rest : List U) : ∀ (p : List St) (v : Va) (W : List Va) (s4 : Wy.Slot), W.length + p.length ≤ 900 →
    ∃ s4', forL (.n 4) (exB (R d) wdU a32) (p.map encS ++ rest) [.v (enc v), .v P, .v o, .own (W.map enc), s4, s5] S =
      (match part v p with | none => some (.ret .non, S) | some c => forL (.n 4) (exB (R d) wdU a32) rest [.v (enc c), .v P, .v o, .own ((W ++ ways v p).map enc), s4', s5] S)
  | [], v, W, s4, _ => ⟨s4, by simp [part, ways]⟩
  | s :: p, v, W, s4, hW => by
    have st := way_step d hd S P o v s W s5 (by simp at hW; omega)
    rw [part_cons]
    cases hs : sub1 v s with
    | none =>
      rw [hs] at st
      refine ⟨s4, ?_⟩
      simp only [List.map_cons, List.cons_append, Option.bind_none]
      conv => lhs; unfold forL
      simp only [setTg, List.set_cons_succ, List.set_cons_zero]
      rw [st]
    | some c =>
      rw [hs] at st
      obtain ⟨s4', ih⟩ := way_loop d hd S P o s5 rest p c (W ++ [v]) (.v (encS s)) (by simp at hW ⊢; omega)
      refine ⟨s4', ?_⟩
      simp only [List.map_cons, List.cons_append, Option.bind_some]
      conv => lhs; unfold forL
      simp only [setTg, List.set_cons_succ, List.set_cons_zero]
      rw [st]
      simp only
      rw [ih]
      simp [ways, hs]
def encZ (z : Va × St) : U := .tup [enc z.1, encS z.2]
theorem back_step (d : Nat) (hd : 3 ≤ d) (S : Sto) (x P W : U) (v i : Va) (s : St) (hs : sub1 v s ≠ none) (h1 : lenV v ≤ 1000) (h2 : lenV i + 1 ≤ 1000) : exB (R d) wdU b32 [.v x, .v P, .v (enc i), .v W, .v (encS s), .v (enc v)] S =
    (match up1 v s i with | none => some (.ret .non, S) | some w => some (.nx [.v x, .v P, .v (enc w), .v W, .v (encS s), .v (enc v)], S)) := by
  have g1 := (Ev.of fun d => step_up_ok d S v s i hs h1 h2) d (by omega)
  cases hu : up1 v s i with
  | none =>
    rw [hu] at g1
    simp [endU, evL_disp, exB, exS, evE, evEs, evO, evT, evP, evAnd, evOr, bindE, bindO, optO, pureO, nxS, optS, slotU, slotP, isiU, asB, asI, isNonU, uIdx, uSlc, seqOf, seqM, L2.atI, L2.ixN, uCmp, uBin, uAdd, uBlt, line, setTg, tup2, ownLen, ownOf, popM, augM, appU, extU, lstOf, frzU, b32, c32, g1, optE]
  | some w =>
    rw [hu] at g1
    have hn := isNonU_enc w
    simp [endU, exB, exS, evE, evEs, bindE, bindO, optO, pureO, nxS, slotU, asB, ownOf, appU, line, b32, c32, g1, hn, optE]
theorem nod_part : ∀ {p : List St} {v c : Va}, part v p = some c → nod c ≤ nod v
  | [], v, c, h => by cases h; exact Nat.le_refl _
  | s :: p, v, c, h => by
    rw [part_cons] at h
    cases hs : sub1 v s with
    | none => rw [hs] at h; cases h
    | some e => rw [hs] at h; exact Nat.le_trans (nod_part h) (nod_sub1 hs)
theorem back_loop (d : Nat) (hd : 3 ≤ d) (S : Sto) (x P W : U) : ∀ (p : List St) (v o : Va) (rest : List U) (s4 s5 : Wy.Slot), part v p ≠ none → nod v + nod o ≤ 900 →
    ∃ s4' s5', forL (.t2 5 4) (exB (R d) wdU b32) ((((ways v p).zip p).reverse.map encZ) ++ rest) [.v x, .v P, .v (enc o), .v W, s4, s5] S =
      (match wth v p o with | none => some (.ret .non, S) | some w => forL (.t2 5 4) (exB (R d) wdU b32) rest [.v x, .v P, .v (enc w), .v W, s4', s5'] S)
  | [], v, o, rest, s4, s5, _, _ => ⟨s4, s5, by simp [wth, ways]⟩
  | s :: p, v, o, rest, s4, s5, hp, hn => by
    rw [part_cons] at hp
    cases hs : sub1 v s with
    | none => rw [hs] at hp; exact absurd rfl hp
    | some c =>
      rw [hs] at hp
      simp only [Option.bind_some] at hp
      have hc := nod_sub1 hs
      obtain ⟨s4', s5', ih⟩ := back_loop d hd S x P W p c o (encZ (v, s) :: rest) s4 s5 hp (by omega)
      rw [wth_cons, hs]
      simp only [Option.bind_some]
      have e : ((ways v (s :: p)).zip (s :: p)).reverse.map encZ ++ rest = ((ways c p).zip p).reverse.map encZ ++ (encZ (v, s) :: rest) := by
        simp [ways, hs]
      rw [e]
      cases hi : wth c p o with
      | none =>
        rw [hi] at ih
        exact ⟨s4', s5', ih⟩
      | some i =>
        rw [hi] at ih
        have := nod_wth hi
        have h1 := lenV_nod v
        have h2 := lenV_nod i
        have st := back_step d hd S x P W v i s (by rw [hs]; simp) (by omega) (by omega)
        refine ⟨.v (encS s), .v (enc v), ?_⟩
        rw [ih]
        simp only [Option.bind_some]
        conv => lhs; unfold forL
        simp only [setTg, tup2, encZ, Option.map_some, List.set_cons_succ, List.set_cons_zero]
        rw [st]
        cases up1 v s i <;> rfl
theorem ways_len : ∀ {p : List St} {v : Va}, part v p ≠ none → (ways v p).length = p.length
  | [], v, _ => rfl
  | s :: p, v, h => by
    rw [part_cons] at h
    cases hs : sub1 v s with
    | none => rw [hs] at h; exact absurd rfl h
    | some c =>
      rw [hs] at h
      simp [ways, hs, ways_len (p := p) (v := c) h]
theorem zip_rev {α β : Type} : ∀ (a : List α) (b : List β), a.length = b.length → a.reverse.zip b.reverse = (a.zip b).reverse
  | [], [], _ => rfl
  | x :: a, y :: b, h => by
    have h' : a.length = b.length := by simpa using h
    simp only [List.reverse_cons, List.zip_cons_cons]
    rw [List.zip_append (by simpa using h'), zip_rev a b h']
    rfl
  | [], _ :: _, h => by simp at h
  | _ :: _, [], h => by simp at h
theorem part_put_ok (v : Va) (p : List St) (o : Va) (S : Sto) (hb : nod v + nod o ≤ 900) (hl : p.length ≤ 900) (hw : ∀ w, wth v p o = some w → nod w ≤ 41 ∧ lev w ≤ 12) : Ev 7 32 [enc v, encP p, enc o] S (some (.ok (optE (wth v p o)), S)) := by
  refine Ev.body (k := 6) (c := c32) (ρ := [.v (enc v), .v (encP p), .v (enc o), .nil, .nil, .nil]) rfl rfl rfl fun d hd => ?_
  obtain ⟨s4, h1⟩ := way_loop d (by omega) S (encP p) (enc o) .nil [] p v [] .nil (by simp; omega)
  rw [show c32.body = (.cons (.own 3 (.disp .nil)) (.cons (.for_ (.n 4) (.seq (.var 1)) a32) (.cons (.frz 3) (.cons (.for_ (.t2 5 4) (.zip (.rev (.var 3)) (.rev (.var 1))) b32) (.cons (.ret (.ite (.call 8 (.cons (.var 2) .nil)) (.var 2) (.k .non))) .nil))))) from rfl]
  simp only [List.append_nil] at h1
  have hs : seqM (encP p) S = some (.ok (p.map encS), S) := rfl
  have h1 : forL (.n 4) (exB (R d) wdU a32) (p.map encS) [.v (enc v), .v (encP p), .v (enc o), .own [], .nil, .nil] S = _ := h1
  cases hp : part v p with
  | none =>
    rw [hp] at h1
    have hw0 := wth_of_part (o := o) hp
    simp only at h1
    simp [endU, evL_disp, exB, exS, evE, evEs, evI, bindE, bindO, optO, pureO, nxS, slotU, line, hs, h1, hw0, optE]
  | some c =>
    rw [hp] at h1
    simp only [forL] at h1
    have hpn : part v p ≠ none := by rw [hp]; simp
    obtain ⟨s4', s5', h2⟩ := back_loop d (by omega) S (enc c) (encP p) (.lst ((ways v p).map enc)) p v o [] s4 .nil hpn hb
    have hwl := ways_len hpn
    have hz : zipM (.lst ((ways v p).map enc).reverse) (.tup (p.map encS).reverse) S = some (.ok (((ways v p).zip p).reverse.map encZ), S) := by
      have e0 : ((ways v p).map enc).reverse.length = (p.map encS).reverse.length := by simp [hwl]
      have e1 : ∀ (xs ys : List U), zipM (.lst xs) (.tup ys) S = if xs.length = ys.length then pureO ((xs.zip ys).map fun p => .tup [p.1, p.2]) S else none := fun _ _ => rfl
      rw [e1, if_pos e0]
      rw [← List.map_reverse, ← List.map_reverse, List.zip_map, List.map_map]
      rw [show (ways v p).reverse.zip p.reverse = ((ways v p).zip p).reverse from zip_rev _ _ hwl]
      rfl
    have hr1 : uRev (.lst ((ways v p).map enc)) = some (.lst ((ways v p).map enc).reverse) := rfl
    have hr2 : uRev (encP p) = some (.tup (p.map encS).reverse) := rfl
    simp only [List.append_nil] at h2
    simp only [List.nil_append, nxS] at h1
    cases hi : wth v p o with
    | none =>
      rw [hi] at h2
      simp only at h2
      simp only [List.map_reverse] at h2 hz hr1 hr2
      simp [endU, evL_disp, exB, exS, evE, evEs, evI, bindE, bindO, optO, pureO, nxS, slotU, ownOf, frzU, line, hs, h1, hr1, hr2, hz, h2, optE]
    | some w =>
      rw [hi] at h2
      simp only [forL] at h2
      simp only [List.map_reverse] at h2 hz hr1 hr2
      have hg := given_ok w S (hw w hi).1 (hw w hi).2 d hd
      simp [endU, evL_disp, exB, exS, evE, evEs, evI, bindE, bindO, optO, pureO, nxS, slotU, ownOf, frzU, asB, line, hs, h1, hr1, hr2, hz, h2, hg, optE]
end Pl
end
section
set_option maxRecDepth 100000
set_option maxHeartbeats 1000000
namespace Pl
open PySem Wy Core49
theorem is_path_all (S : Sto) (us : List U) (h : us.length ≤ 500) (hs : ∀ u ∈ us, Ev 2 14 [u] S (some (.ok (.bl true), S))) : Ev 3 15 [.tup us] S (some (.ok (.bl true), S)) := by
  refine Ev.body (k := 2) (c := c15) (ρ := [.v (.tup us), .nil]) rfl rfl rfl fun d hd => ?_
  have hc := comp_map (fn := R d) (elt := .call 14 (.cons (.var 1) .nil)) (tg := .n 1) (it := .seq (.var 0)) (own := [("step", 1)]) (S := S) (xs := us)
      (ρ := [.v (.tup us), .nil]) id (fun _ => .bl true) (by simp [endU, evL_disp, exB, exS, evE, evEs, evO, evT, evP, evAnd, evOr, bindE, bindO, optO, pureO, nxS, optS, slotU, slotP, isiU, asB, asI, isNonU, uIdx, uSlc, seqOf, seqM, L2.atI, L2.ixN, uCmp, uBin, uAdd, uBlt, line, setTg, tup2, ownLen, ownOf, popM, augM, appU, extU, lstOf, frzU, evL, evI]) (by simp [line]; omega) fun y hy => ⟨_, rfl, by
        have := hs y hy d hd
        simp [endU, evL_disp, exB, exS, evE, evEs, evO, evT, evP, evAnd, evOr, bindE, bindO, optO, pureO, nxS, optS, slotU, slotP, isiU, asB, asI, isNonU, uIdx, uSlc, seqOf, seqM, L2.atI, L2.ixN, uCmp, uBin, uAdd, uBlt, line, setTg, tup2, ownLen, ownOf, popM, augM, appU, extU, lstOf, frzU, evL, evI, wipeU, this]⟩
  have hl : uBlt S .len (.tup us) = some (.int us.length) := rfl
  have hi : isiU .tuple (.tup us) = true := rfl
  have u1 : ∀ a b, uCmp .le (.int a) (.int b) = some (decide (a ≤ b)) := fun _ _ => rfl
  have ha : uBlt S .all (.lst (us.map fun _ => U.bl true)) = some (.bl true) := by
    simp only [uBlt, bools_true, Option.map_some, all_true]
  have h' : (us.length : Int) ≤ 500 := by omega
  simp [endU, exB, exS, evE, evEs, evO, evT, evP, evAnd, evOr, bindE, bindO, optO, pureO, nxS, optS, slotU, asB, c15, hc, hl, hi, u1, ha, h']
theorem is_path_none (S : Sto) (p : List St) (h : p.length ≤ 400) : Ev 4 16 [.tup (p.map encS ++ [.str ".none"])] S (some (.ok .non, S)) := by
  refine Ev.body (k := 3) (c := c16) (ρ := [.v (.tup (p.map encS ++ [.str ".none"]))]) rfl rfl rfl fun d hd => ?_
  have := is_path_all S (p.map encS ++ [.str ".none"]) (by simp; omega) (fun u hu => by
    rcases List.mem_append.mp hu with hu | hu
    · obtain ⟨s, _, rfl⟩ := List.mem_map.mp hu
      exact is_step_ok S s
    · simp at hu; subst hu
      exact Ev.of fun d => by kernel_rfl) d hd
  simp [endU, exB, exS, evE, evEs, bindE, bindO, optO, pureO, nxS, slotU, asB, c16, this]
theorem down_none (S : Sto) (v : Va) : Ev 2 30 [enc v, .str ".none"] S (some (.ok .non, S)) := Ev.of fun d => by
  cases v with
  | lf l => cases l <;> kernel_rfl
  | rc1 n => kernel_rfl
  | rc2 m n => kernel_rfl
  | cas l v => kernel_rfl
  | lis vs =>
    cases vs with
    | nil => kernel_rfl
    | cons v vs =>
      have e1 : uEq (.str "list") (.str "rec") = some false := by kernel_rfl
      have e2 : uEq (.str "list") (.str "case") = some false := by kernel_rfl
      have e4 : uEq (.str "list") (.str "list") = some true := by kernel_rfl
      have g : uCmp .isin (.str ".none") (.tup [.str "<", .str ">"]) = some false := by kernel_rfl
      have h1 : 0 < (encs vs).length + 1 := by omega
      rw [stpE (c := c30) rfl rfl (ρ := [.v (enc (.lis (.cons v vs))), .v (.str ".none")]) rfl]
      have u1 : ∀ a b, uCmp .eq a b = uEq a b := fun _ _ => rfl
      have u2 : ∀ a b : Int, uCmp .gt (.int a) (.int b) = some (decide (b < a)) := fun _ _ => rfl
      have h2 : (0 : Int) < ((encs vs).length : Int) + 1 := by omega
      simp [endU, c30, exB, exS, evE, evEs, evO, evAnd, evOr, bindE, bindO, optO, pureO, nxS, slotU, isiU, asB, asI, uIdx, uSlc, seqOf, L2.atI, L2.ixN, e1, e2, e4, g, u1, u2, uBlt, line, enc, encs, h1, h2]
theorem part_put_none (v c : Va) (p : List St) (o : U) (S : Sto) (hp : part v p = some c) (hl : p.length ≤ 900) : Ev 4 32 [enc v, .tup (p.map encS ++ [.str ".none"]), o] S (some (.ok .non, S)) := by
  refine Ev.body (k := 3) (c := c32) (ρ := [.v (enc v), .v (.tup (p.map encS ++ [.str ".none"])), .v o, .nil, .nil, .nil]) rfl rfl rfl fun d hd => ?_
  obtain ⟨s4, h1⟩ := way_loop d (by omega) S (.tup (p.map encS ++ [.str ".none"])) o .nil [.str ".none"] p v [] .nil (by simp; omega)
  rw [hp] at h1
  have hdn := down_none S c d (by omega)
  have hl2 : (ways v p).length < 1000000 := by
    rw [ways_len (by rw [hp]; simp)]; omega
  have h2 : forL (.n 4) (exB (R d) wdU a32) [.str ".none"] [.v (enc c), .v (.tup (p.map encS ++ [.str ".none"])), .v o, .own (([] ++ ways v p).map enc), s4, .nil] S = some (.ret .non, S) := by
    simp [endU, evL_disp, exB, exS, evE, evEs, evO, evT, evP, evAnd, evOr, bindE, bindO, optO, pureO, nxS, optS, slotU, slotP, isiU, asB, asI, isNonU, uIdx, uSlc, seqOf, seqM, L2.atI, L2.ixN, uCmp, uBin, uAdd, uBlt, line, setTg, tup2, ownLen, ownOf, popM, augM, appU, extU, lstOf, frzU, forL, a32, c32, hdn, hl2]
  rw [show c32.body = (.cons (.own 3 (.disp .nil)) (.cons (.for_ (.n 4) (.seq (.var 1)) a32) (.cons (.frz 3) (.cons (.for_ (.t2 5 4) (.zip (.rev (.var 3)) (.rev (.var 1))) b32) (.cons (.ret (.ite (.call 8 (.cons (.var 2) .nil)) (.var 2) (.k .non))) .nil))))) from rfl]
  have hs : seqM (.tup (p.map encS ++ [.str ".none"])) S = some (.ok (p.map encS ++ [.str ".none"]), S) := rfl
  have h1 : forL (.n 4) (exB (R d) wdU a32) (p.map encS ++ [.str ".none"]) [.v (enc v), .v (.tup (p.map encS ++ [.str ".none"])), .v o, .own [], .nil, .nil] S = _ := h1
  simp only at h1
  rw [h2] at h1
  simp [endU, evL_disp, exB, exS, evE, evEs, evI, bindE, bindO, optO, pureO, nxS, slotU, line, hs, h1]
abbrev Small (v : Va) : Prop := nod v ≤ 41 ∧ lev v ≤ 12
theorem with_part_ok (v : Va) (p : List St) (o : Va) (S : Sto) (h1 : Small v) (h2 : Small o) (hl : p.length ≤ 500) (hw : ∀ w, wth v p o = some w → Small w) : Ev 8 33 [enc v, encP p, enc o] S (match wth v p o with | none => some (.err "NoEdit", S) | some w => some (.ok (enc w), S)) := by
  refine Ev.body (k := 7) (c := c33) (ρ := [.v (enc v), .v (encP p), .v (enc o), .nil]) rfl rfl rfl fun d hd => ?_
  have g1 := given_ok v S h1.1 h1.2 d (by omega)
  have g2 := given_ok o S h2.1 h2.2 d (by omega)
  have g3 := check_path_ok S p hl d (by omega)
  have g4 := part_put_ok v p o S (by have := h1.1; have := h2.1; omega) (by omega) hw d hd
  cases hi : wth v p o with
  | none =>
    rw [hi] at g4
    simp [endU, evL_disp, exB, exS, evE, evEs, evO, evT, evP, evAnd, evOr, bindE, bindO, optO, pureO, nxS, optS, slotU, slotP, isiU, asB, asI, isNonU, uIdx, uSlc, seqOf, seqM, L2.atI, L2.ixN, uCmp, uBin, uAdd, uBlt, line, setTg, tup2, ownLen, ownOf, popM, augM, appU, extU, lstOf, frzU, c33, g1, g2, g3, g4, optE]
  | some w =>
    rw [hi] at g4
    have hn := isNonU_enc w
    simp [endU, evL_disp, exB, exS, evE, evEs, evOr, bindE, bindO, optO, pureO, nxS, slotU, asB, line, c33, g1, g2, g3, g4, optE, hn]
theorem with_part_none (v c : Va) (p : List St) (o : Va) (S : Sto) (h1 : Small v) (h2 : Small o) (hl : p.length ≤ 400) (hp : part v p = some c) : Ev 8 33 [enc v, .tup (p.map encS ++ [.str ".none"]), enc o] S (some (.err "NoEdit", S)) := by
  refine Ev.body (k := 7) (c := c33) (ρ := [.v (enc v), .v (.tup (p.map encS ++ [.str ".none"])), .v (enc o), .nil]) rfl rfl rfl fun d hd => ?_
  have g1 := given_ok v S h1.1 h1.2 d (by omega)
  have g2 := given_ok o S h2.1 h2.2 d (by omega)
  have g3 := is_path_none S p hl d (by omega)
  have g4 := part_put_none v c p (enc o) S hp (by omega) d (by omega)
  simp [endU, evL_disp, exB, exS, evE, evEs, evOr, bindE, bindO, optO, pureO, nxS, slotU, asB, isNonU, line, c33, g1, g2, g3, g4]
theorem wpart_v1 (S : Sto) : Ev 9 33 [.tup [.str "fault", .str "x"], .tup [], .int 1] S (some (.err "NoValue", S)) := Ev.of fun d => by kernel_rfl
theorem wpart_v2 (S : Sto) : Ev 9 33 [.int 1, .tup [], .non] S (some (.err "NoValue", S)) := Ev.of fun d => by kernel_rfl
theorem wpart_p (S : Sto) : Ev 9 33 [.int 1, .lst [.str "?"], .int 1] S (some (.err "NoPath", S)) := Ev.of fun d => by kernel_rfl
/-! back again -/
theorem up_sub {v i w : Va} {s : St} (hs : sub1 v s ≠ none) (h : up1 v s i = some w) : sub1 w s = some i := by
  cases v with
  | lf l => cases s <;> cases h
  | rc1 n => cases s <;> cases h <;> rfl
  | rc2 m n => cases s <;> cases h <;> rfl
  | cas l v => cases s <;> cases h <;> rfl
  | lis vs =>
    cases vs with
    | nil => cases s <;> cases h
    | cons v vs =>
      cases s with
      | rst => cases i <;> cases h <;> rfl
      | _ => cases h <;> rfl
theorem up_back {v c i w : Va} {s : St} (hs : sub1 v s = some c) (h : up1 v s i = some w) : up1 w s c = some v := by
  cases v with
  | lf l => cases s <;> cases h
  | rc1 n => cases s <;> cases h <;> cases hs <;> rfl
  | rc2 m n => cases s <;> cases h <;> cases hs <;> rfl
  | cas l v => cases s <;> cases h <;> cases hs <;> rfl
  | lis vs =>
    cases vs with
    | nil => cases s <;> cases h
    | cons v vs =>
      cases s with
      | rst => cases i <;> cases h <;> cases hs <;> rfl
      | fst => cases h; cases hs; rfl
      | _ => cases h
theorem part_wth : ∀ {p : List St} {v o w : Va}, wth v p o = some w → part w p = some o
  | [], v, o, w, h => by cases h; rfl
  | s :: p, v, o, w, h => by
    rw [wth_cons] at h
    cases hs : sub1 v s with
    | none => rw [hs] at h; cases h
    | some c =>
      rw [hs] at h
      simp only [Option.bind_some] at h
      cases hi : wth c p o with
      | none => rw [hi] at h; cases h
      | some i =>
        rw [hi] at h
        simp only [Option.bind_some] at h
        rw [part_cons, up_sub (by rw [hs]; simp) h]
        exact part_wth hi
theorem wth_back : ∀ {p : List St} {v o w c : Va}, wth v p o = some w → part v p = some c → wth w p c = some v
  | [], v, o, w, c, h, hp => by cases hp; rfl
  | s :: p, v, o, w, c, h, hp => by
    rw [wth_cons] at h
    rw [part_cons] at hp
    cases hs : sub1 v s with
    | none => rw [hs] at h; cases h
    | some e =>
      rw [hs] at h hp
      simp only [Option.bind_some] at h hp
      cases hi : wth e p o with
      | none => rw [hi] at h; cases h
      | some i =>
        rw [hi] at h
        simp only [Option.bind_some] at h
        rw [wth_cons, up_sub (by rw [hs]; simp) h]
        simp only [Option.bind_some]
        rw [wth_back hi hp]
        simp only [Option.bind_some]
        exact up_back hs h
/-! bounds -/
theorem nod_wth' : ∀ {p : List St} {v o w c : Va}, wth v p o = some w → part v p = some c → nod w + nod c ≤ nod v + nod o
  | [], v, o, w, c, h, hp => by cases h; cases hp; omega
  | s :: p, v, o, w, c, h, hp => by
    rw [wth_cons] at h
    rw [part_cons] at hp
    cases hs : sub1 v s with
    | none => rw [hs] at h; cases h
    | some e =>
      rw [hs] at h hp
      simp only [Option.bind_some] at h hp
      cases hi : wth e p o with
      | none => rw [hi] at h; cases h
      | some i =>
        rw [hi] at h
        simp only [Option.bind_some] at h
        have h1 := nod_wth' hi hp
        have h2 := nod_up1 hs h
        omega
theorem lev_up1 {v c i w : Va} {s : St} {m : Nat} (h : sub1 v s = some c) (hu : up1 v s i = some w) (hl : lev i ≤ lev c + m) : lev w ≤ lev v + m := by
  cases v with
  | lf l => cases s <;> cases h
  | rc1 n => cases s <;> cases h <;> cases hu <;> simp [lev] at * <;> omega
  | rc2 m n => cases s <;> cases h <;> cases hu <;> simp [lev] at * <;> omega
  | cas l v => cases s <;> cases h <;> cases hu <;> simp [lev] at * <;> omega
  | lis vs =>
    cases vs with
    | nil => cases s <;> cases h
    | cons v vs =>
      cases s with
      | fst => cases h; cases hu; simp [lev, levs] at *; omega
      | rst =>
        cases h
        cases i with
        | lis ws => cases hu; simp [lev, levs] at *; omega
        | _ => cases hu
      | _ => cases h
theorem lev_wth : ∀ {p : List St} {v o w c : Va} {m : Nat}, wth v p o = some w → part v p = some c → lev o ≤ lev c + m → lev w ≤ lev v + m
  | [], v, o, w, c, m, h, hp, hl => by cases h; cases hp; exact hl
  | s :: p, v, o, w, c, m, h, hp, hl => by
    rw [wth_cons] at h
    rw [part_cons] at hp
    cases hs : sub1 v s with
    | none => rw [hs] at h; cases h
    | some e =>
      rw [hs] at h hp
      simp only [Option.bind_some] at h hp
      cases hi : wth e p o with
      | none => rw [hi] at h; cases h
      | some i =>
        rw [hi] at h
        simp only [Option.bind_some] at h
        exact lev_up1 hs h (lev_wth hi hp hl)
end Pl
end
section
set_option maxRecDepth 100000
set_option maxHeartbeats 4000000
namespace Pl
open PySem Wy Core49
inductive Nm where | a | b | c | d | e
deriving DecidableEq
def encN : Nm → U
  | .a => .str "a" | .b => .str "b" | .c => .str "c" | .d => .str "d" | .e => .str "e"
structure S5 where
  a : Option U
  b : Option U
  c : Option U
  d : Option U
  e : Option U
def prU (n : U) : Option U → List U
  | none => []
  | some u => [.tup [n, u]]
def list5 (s : S5) : List U := prU (.str "a") s.a ++ (prU (.str "b") s.b ++ (prU (.str "c") s.c ++ (prU (.str "d") s.d ++ prU (.str "e") s.e)))
def enc5 (s : S5) : U := .tup (list5 s)
def S5.get (s : S5) : Nm → Option U
  | .a => s.a | .b => s.b | .c => s.c | .d => s.d | .e => s.e
def S5.set (s : S5) (n : Nm) (o : Option U) : S5 := match n with
  | .a => ⟨o, s.b, s.c, s.d, s.e⟩
  | .b => ⟨s.a, o, s.c, s.d, s.e⟩
  | .c => ⟨s.a, s.b, o, s.d, s.e⟩
  | .d => ⟨s.a, s.b, s.c, o, s.e⟩
  | .e => ⟨s.a, s.b, s.c, s.d, o⟩
def optU : Option U → U
  | none => .non
  | some u => u
theorem under5 (s : S5) (n : Nm) (S : Sto) : Ev 1 29 [enc5 s, encN n] S (some (.ok (optU (s.get n)), S)) := Ev.of fun d => by
  obtain ⟨a, b, c, dd, e⟩ := s
  cases n <;> cases a <;> cases b <;> cases c <;> cases dd <;> cases e <;> kernel_rfl
theorem found5 (s : S5) (n : Nm) (S : Sto) : Ev 1 57 [enc5 s, encN n] S (some (.ok (optU (s.get n)), S)) := Ev.of fun d => by
  obtain ⟨a, b, c, dd, e⟩ := s
  cases n <;> cases a <;> cases b <;> cases c <;> cases dd <;> cases e <;> kernel_rfl
theorem value5 (s : S5) (n : Nm) (S : Sto) : Ev 1 45 [enc5 s, encN n] S (some (.ok (optU (s.get n)), S)) := Ev.of fun d => by
  obtain ⟨a, b, c, dd, e⟩ := s
  cases n <;> cases a <;> cases b <;> cases c <;> cases dd <;> cases e <;> kernel_rfl
theorem with5 (s : S5) (n : Nm) (u : U) (S : Sto) : Ev 1 27 [enc5 s, encN n, u] S (some (.ok (enc5 (s.set n (some u))), S)) := Ev.of fun d => by
  obtain ⟨a, b, c, dd, e⟩ := s
  cases n <;> cases a <;> cases b <;> cases c <;> cases dd <;> cases e <;> kernel_rfl
theorem without5 (s : S5) (n : Nm) (S : Sto) : Ev 1 28 [enc5 s, encN n] S (some (.ok (enc5 (s.set n none)), S)) := Ev.of fun d => by
  obtain ⟨a, b, c, dd, e⟩ := s
  cases n <;> cases a <;> cases b <;> cases c <;> cases dd <;> cases e <;> kernel_rfl
theorem named5 (s : S5) (S : Sto) : Ev 2 4 [enc5 s, .int 30] S (some (.ok (.bl true), S)) := Ev.of fun d => by
  obtain ⟨a, b, c, dd, e⟩ := s
  cases a <;> cases b <;> cases c <;> cases dd <;> cases e <;> kernel_rfl
/-- no such name -/
theorem under5z (s : S5) (S : Sto) : Ev 1 29 [enc5 s, .str "z"] S (some (.ok .non, S)) := Ev.of fun d => by
  obtain ⟨a, b, c, dd, e⟩ := s
  cases a <;> cases b <;> cases c <;> cases dd <;> cases e <;> kernel_rfl
theorem under5zz (s : S5) (S : Sto) : Ev 1 29 [enc5 s, .str "zz"] S (some (.ok .non, S)) := Ev.of fun d => by
  obtain ⟨a, b, c, dd, e⟩ := s
  cases a <;> cases b <;> cases c <;> cases dd <;> cases e <;> kernel_rfl
theorem found5z (s : S5) (S : Sto) : Ev 1 57 [enc5 s, .str "z"] S (some (.ok .non, S)) := Ev.of fun d => by
  obtain ⟨a, b, c, dd, e⟩ := s
  cases a <;> cases b <;> cases c <;> cases dd <;> cases e <;> kernel_rfl
/-! `_law_set` -/
def b58 (o : CE) : CB := (.cons (.asg 3 (.ofL (.comp (.var 5) (.n 5) (.seq (.var 0)) (.so (.cmp .ne (.sub (.var 5) (.k (.int 0))) (.var 1))) [("pair", 5)]))) (.cons (.asg 4 (.sortL (.bin .add (.ofL (.comp (.sub (.var 5) (.k (.int 0))) (.n 5) (.seq (.var 3)) .no [("pair", 5)])) o))) (match c58.body with | .cons _ (.cons _ b) => b | _ => .nil)))
theorem set5n (s : S5) (n : Nm) (S : Sto) : Ev 2 58 [enc5 s, encN n, .non] S (some (.ok (enc5 (s.set n none)), S)) := Ev.of fun d => by
  obtain ⟨a, b, c, dd, e⟩ := s
  cases n <;> cases a <;> cases b <;> cases c <;> cases dd <;> cases e <;> kernel_rfl
theorem body58 (fn : Nat → List U → Sto → UM U) (x y u : U) (S : Sto) (hu : isNonU u = false) : exB fn wdU c58.body [.v x, .v y, .v u, .nil, .nil, .nil, .nil] S = exB fn wdU (b58 (.ofL (.disp (.cons (.var 1) .nil)))) [.v x, .v y, .v u, .nil, .nil, .nil, .nil] S := by
  rw [show c58.body = b58 (.ite (.isN (.var 2)) (.ofL (.disp .nil)) (.ofL (.disp (.cons (.var 1) .nil)))) from rfl]
  unfold b58
  simp only [exB, exS, evE, bindE, bindO]
  cases evL fn wdU (.comp (.var 5) (.n 5) (.seq (.var 0)) (.so (.cmp .ne (.sub (.var 5) (.k (.int 0))) (.var 1))) [("pair", 5)]) [.v x, .v y, .v u, .nil, .nil, .nil, .nil] S with
  | none => rfl
  | some r =>
    obtain ⟨o, S'⟩ := r
    cases o with
    | err c => rfl
    | ok us => simp [pureO, optO, slotU, hu, asB, nxS]
theorem set5s (s : S5) (n : Nm) (u : U) (S : Sto) (hu : isNonU u = false) : Ev 2 58 [enc5 s, encN n, u] S (some (.ok (enc5 (s.set n (some u))), S)) := Ev.of fun d => by
  rw [stpE (c := c58) (ρ := [.v (enc5 s), .v (encN n), .v u, .nil, .nil, .nil, .nil]) rfl rfl rfl, body58 _ _ _ _ _ hu]
  obtain ⟨a, b, c, dd, e⟩ := s
  cases n <;> cases a <;> cases b <;> cases c <;> cases dd <;> cases e <;> kernel_rfl
end Pl
end
section
set_option maxRecDepth 100000
set_option maxHeartbeats 4000000
namespace Pl
open PySem Wy Core49
inductive Cm where | p | q
deriving DecidableEq
def encM : Cm → U
  | .p => .str "p" | .q => .str "q"
structure S2 where
  p : Option Nat
  q : Option Nat
def prN (n : U) : Option Nat → List U
  | none => []
  | some u => [.tup [n, .int u]]
def enc2 (s : S2) : U := .tup (prN (.str "p") s.p ++ prN (.str "q") s.q)
def S2.get (s : S2) : Cm → Option Nat
  | .p => s.p | .q => s.q
def S2.set (s : S2) (n : Cm) (o : Option Nat) : S2 := match n with
  | .p => ⟨o, s.q⟩
  | .q => ⟨s.p, o⟩
def optN : Option Nat → U
  | none => .non
  | some u => .int u
theorem under2 (s : S2) (n : Cm) (S : Sto) : Ev 1 29 [enc2 s, encM n] S (some (.ok (optN (s.get n)), S)) := Ev.of fun d => by
  obtain ⟨a, b⟩ := s
  cases n <;> cases a <;> cases b <;> kernel_rfl
theorem under2zz (s : S2) (S : Sto) : Ev 1 29 [enc2 s, .str "zz"] S (some (.ok .non, S)) := Ev.of fun d => by
  obtain ⟨a, b⟩ := s
  cases a <;> cases b <;> kernel_rfl
theorem found2 (s : S2) (n : Cm) (S : Sto) : Ev 1 57 [enc2 s, encM n] S (some (.ok (optN (s.get n)), S)) := Ev.of fun d => by
  obtain ⟨a, b⟩ := s
  cases n <;> cases a <;> cases b <;> kernel_rfl
theorem value2 (s : S2) (n : Cm) (S : Sto) : Ev 1 45 [enc2 s, encM n] S (some (.ok (optN (s.get n)), S)) := Ev.of fun d => by
  obtain ⟨a, b⟩ := s
  cases n <;> cases a <;> cases b <;> kernel_rfl
/-- whatever is put there -/
theorem with2u (s : S2) (n : Cm) (u : U) (S : Sto) : Ev 1 27 [enc2 s, encM n, u] S (some (.ok (match n with | .p => .tup ([.tup [.str "p", u]] ++ prN (.str "q") s.q) | .q => .tup (prN (.str "p") s.p ++ [.tup [.str "q", u]])), S)) := Ev.of fun d => by
  obtain ⟨a, b⟩ := s
  cases n <;> cases a <;> cases b <;> kernel_rfl
theorem with2 (s : S2) (n : Cm) (u : Nat) (S : Sto) : Ev 1 27 [enc2 s, encM n, .int u] S (some (.ok (enc2 (s.set n (some u))), S)) := Ev.of fun d => by
  obtain ⟨a, b⟩ := s
  cases n <;> cases a <;> cases b <;> kernel_rfl
theorem without2 (s : S2) (n : Cm) (S : Sto) : Ev 1 28 [enc2 s, encM n] S (some (.ok (enc2 (s.set n none)), S)) := Ev.of fun d => by
  obtain ⟨a, b⟩ := s
  cases n <;> cases a <;> cases b <;> kernel_rfl
theorem set2s (s : S2) (n : Cm) (u : Nat) (S : Sto) : Ev 2 58 [enc2 s, encM n, .int u] S (some (.ok (enc2 (s.set n (some u))), S)) := Ev.of fun d => by
  obtain ⟨a, b⟩ := s
  cases n <;> cases a <;> cases b <;> kernel_rfl
theorem set2n (s : S2) (n : Cm) (S : Sto) : Ev 2 58 [enc2 s, encM n, .non] S (some (.ok (enc2 (s.set n none)), S)) := Ev.of fun d => by
  obtain ⟨a, b⟩ := s
  cases n <;> cases a <;> cases b <;> kernel_rfl
theorem choices2 (s : S2) (S : Sto) : Ev 3 10 [enc2 s] S (some (.ok (.bl true), S)) := Ev.of fun d => by
  obtain ⟨a, b⟩ := s
  cases a <;> cases b <;> kernel_rfl
/-- no choices -/
theorem choices2m (s : S2) (S : Sto) : Ev 3 10 [.tup ([.tup [.str "p", .int (-1)]] ++ prN (.str "q") s.q)] S (some (.ok (.bl false), S)) := Ev.of fun d => by
  obtain ⟨a, b⟩ := s
  cases b <;> kernel_rfl
theorem choices2t (s : S2) (S : Sto) : Ev 3 10 [.tup ([.tup [.str "p", .bl true]] ++ prN (.str "q") s.q)] S (some (.ok (.bl false), S)) := Ev.of fun d => by
  obtain ⟨a, b⟩ := s
  cases b <;> kernel_rfl
end Pl
end
section
set_option maxRecDepth 100000
set_option maxHeartbeats 4000000
namespace Pl
open PySem Wy Core49
structure V5 where
  a : Option Va
  b : Option Va
  c : Option Va
  d : Option Va
  e : Option Va
def V5.get (s : V5) : Nm → Option Va
  | .a => s.a | .b => s.b | .c => s.c | .d => s.d | .e => s.e
def V5.set (s : V5) (n : Nm) (o : Option Va) : V5 := match n with
  | .a => ⟨o, s.b, s.c, s.d, s.e⟩
  | .b => ⟨s.a, o, s.c, s.d, s.e⟩
  | .c => ⟨s.a, s.b, o, s.d, s.e⟩
  | .d => ⟨s.a, s.b, s.c, o, s.e⟩
  | .e => ⟨s.a, s.b, s.c, s.d, o⟩
def V5.u (s : V5) : S5 := ⟨s.a.map enc, s.b.map enc, s.c.map enc, s.d.map enc, s.e.map enc⟩
theorem V5.u_get (s : V5) (n : Nm) : s.u.get n = (s.get n).map enc := by cases n <;> rfl
theorem V5.u_set (s : V5) (n : Nm) (o : Option Va) : s.u.set n (o.map enc) = (s.set n o).u := by cases n <;> rfl
theorem V5.get_set (s : V5) (n m : Nm) (o : Option Va) : (s.set n o).get m = if m = n then o else s.get m := by cases n <;> cases m <;> rfl
theorem V5.set_set (s : V5) (n : Nm) (o r : Option Va) : (s.set n o).set n r = s.set n r := by cases n <;> rfl
theorem V5.set_get (s : V5) (n : Nm) : s.set n (s.get n) = s := by cases n <;> rfl
theorem S2.get_set (s : S2) (n : Cm) (o : Option Nat) : (s.set n o).get n = o := by cases n <;> rfl
theorem S2.set_set (s : S2) (n : Cm) (o r : Option Nat) : (s.set n o).set n r = s.set n r := by cases n <;> rfl
theorem S2.set_get (s : S2) (n : Cm) : s.set n (s.get n) = s := by cases n <;> rfl
def encV (s : V5) : U := enc5 s.u
theorem optU_enc (o : Option Va) : optU (o.map enc) = optE o := by cases o <;> rfl
theorem under_ok (s : V5) (n : Nm) (S : Sto) : Ev 1 29 [encV s, encN n] S (some (.ok (optE (s.get n)), S)) := by
  have := under5 s.u n S; rwa [V5.u_get, optU_enc] at this
theorem found_ok (s : V5) (n : Nm) (S : Sto) : Ev 1 57 [encV s, encN n] S (some (.ok (optE (s.get n)), S)) := by
  have := found5 s.u n S; rwa [V5.u_get, optU_enc] at this
theorem value_by_ok (s : V5) (n : Nm) (S : Sto) : Ev 1 45 [encV s, encN n] S (some (.ok (optE (s.get n)), S)) := by
  have := value5 s.u n S; rwa [V5.u_get, optU_enc] at this
theorem with_name_ok (s : V5) (n : Nm) (v : Va) (S : Sto) : Ev 1 27 [encV s, encN n, enc v] S (some (.ok (encV (s.set n (some v))), S)) := by
  have := with5 s.u n (enc v) S; rwa [show some (enc v) = (some v).map enc from rfl, V5.u_set] at this
theorem without_name_ok (s : V5) (n : Nm) (S : Sto) : Ev 1 28 [encV s, encN n] S (some (.ok (encV (s.set n none)), S)) := by
  have := without5 s.u n S; rwa [show (none : Option U) = (none : Option Va).map enc from rfl, V5.u_set] at this
theorem law_set_some (s : V5) (n : Nm) (v : Va) (S : Sto) : Ev 2 58 [encV s, encN n, enc v] S (some (.ok (encV (s.set n (some v))), S)) := by
  have := set5s s.u n (enc v) S (isNonU_enc v); rwa [show some (enc v) = (some v).map enc from rfl, V5.u_set] at this
theorem law_set_none (s : V5) (n : Nm) (S : Sto) : Ev 2 58 [encV s, encN n, .non] S (some (.ok (encV (s.set n none)), S)) := by
  have := set5n s.u n S; rwa [show (none : Option U) = (none : Option Va).map enc from rfl, V5.u_set] at this
/-- what a store holds -/
def items (s : V5) : List (Nm × Va) := (s.a.toList.map fun v => (Nm.a, v)) ++ ((s.b.toList.map fun v => (Nm.b, v)) ++ ((s.c.toList.map fun v => (Nm.c, v)) ++ ((s.d.toList.map fun v => (Nm.d, v)) ++ (s.e.toList.map fun v => (Nm.e, v)))))
def encI (i : Nm × Va) : U := .tup [encN i.1, enc i.2]
theorem list_items (s : V5) : list5 s.u = (items s).map encI := by
  obtain ⟨a, b, c, d, e⟩ := s
  cases a <;> cases b <;> cases c <;> cases d <;> cases e <;> rfl
theorem items_get {s : V5} {i : Nm × Va} (h : i ∈ items s) : s.get i.1 = some i.2 := by
  obtain ⟨n, v⟩ := i
  obtain ⟨a, b, c, d, e⟩ := s
  simp only [items, List.mem_append, List.mem_map, Option.mem_toList, Prod.mk.injEq, Option.mem_def] at h
  rcases h with h | h | h | h | h <;> (obtain ⟨w, h1, rfl, rfl⟩ := h; exact h1)
theorem items_len (s : V5) : (items s).length ≤ 5 := by
  obtain ⟨a, b, c, d, e⟩ := s
  cases a <;> cases b <;> cases c <;> cases d <;> cases e <;> simp [items]
theorem encV_items (s : V5) : encV s = .tup ((items s).map encI) := by
  unfold encV enc5; rw [list_items]
def OkS (s : V5) : Prop := ∀ n v, s.get n = some v → Small v
theorem is_store_ok (s : V5) (S : Sto) (h : OkS s) : Ev 7 9 [encV s] S (some (.ok (.bl true), S)) := by
  refine Ev.body (k := 6) (c := c9) (ρ := [.v (encV s), .nil]) rfl rfl rfl fun d hd => ?_
  have h1 := named5 s.u S d (by omega)
  have h1 : R d 4 [encV s, .int 30] S = some (.ok (.bl true), S) := h1
  have hc := comp_map (fn := R d) (elt := .call 8 (.cons (.sub (.var 1) (.k (.int 1))) .nil)) (tg := .n 1) (it := .seq (.var 0)) (own := [("pair", 1)]) (S := S) (xs := items s)
      (ρ := [.v (encV s), .nil]) encI (fun _ => .bl true) (by simp [endU, evL_disp, exB, exS, evE, evEs, evO, evT, evP, evAnd, evOr, bindE, bindO, optO, pureO, nxS, optS, slotU, slotP, isiU, asB, asI, isNonU, uIdx, uSlc, seqOf, seqM, L2.atI, L2.ixN, uCmp, uBin, uAdd, uBlt, line, setTg, tup2, ownLen, ownOf, popM, augM, appU, extU, lstOf, frzU, evL, evI, encV_items]) (by have := items_len s; simp [line]; omega) fun y hy => ⟨_, rfl, by
        have hs := h _ _ (items_get hy)
        have := given_ok y.2 S hs.1 hs.2 d (by omega)
        simp [endU, evL_disp, exB, exS, evE, evEs, evO, evT, evP, evAnd, evOr, bindE, bindO, optO, pureO, nxS, optS, slotU, slotP, isiU, asB, asI, isNonU, uIdx, uSlc, seqOf, seqM, L2.atI, L2.ixN, uCmp, uBin, uAdd, uBlt, line, setTg, tup2, ownLen, ownOf, popM, augM, appU, extU, lstOf, frzU, evL, evI, wipeU, encI, this]⟩
  have ha : uBlt S .all (.lst ((items s).map fun _ => U.bl true)) = some (.bl true) := by
    simp only [uBlt, bools_true, Option.map_some, all_true]
  simp [endU, exB, exS, evE, evEs, evAnd, bindE, bindO, optO, pureO, nxS, slotU, asB, c9, h1, hc, ha]
structure Stt where
  s : V5
  c : S2
def encT (t : Stt) : U := .tup [encV t.s, enc2 t.c]
def Ok (t : Stt) : Prop := OkS t.s
theorem check_store_ok (s : V5) (S : Sto) (h : OkS s) : Ev 8 11 [encV s] S (some (.ok .non, S)) := by
  refine Ev.body (k := 7) (c := c11) (ρ := [.v (encV s)]) rfl rfl rfl fun d hd => ?_
  have h1 := is_store_ok s S h d hd
  simp [endU, evL_disp, exB, exS, evE, evEs, evO, evT, evP, evAnd, evOr, bindE, bindO, optO, pureO, nxS, optS, slotU, slotP, isiU, asB, asI, isNonU, uIdx, uSlc, seqOf, seqM, L2.atI, L2.ixN, uCmp, uBin, uAdd, uBlt, line, setTg, tup2, ownLen, ownOf, popM, augM, appU, extU, lstOf, frzU, c11, h1]
theorem check_choices_ok (s : S2) (S : Sto) : Ev 4 12 [enc2 s] S (some (.ok .non, S)) := by
  refine Ev.body (k := 3) (c := c12) (ρ := [.v (enc2 s)]) rfl rfl rfl fun d hd => ?_
  have h1 := choices2 s S d hd
  simp [endU, evL_disp, exB, exS, evE, evEs, evO, evT, evP, evAnd, evOr, bindE, bindO, optO, pureO, nxS, optS, slotU, slotP, isiU, asB, asI, isNonU, uIdx, uSlc, seqOf, seqM, L2.atI, L2.ixN, uCmp, uBin, uAdd, uBlt, line, setTg, tup2, ownLen, ownOf, popM, augM, appU, extU, lstOf, frzU, c12, h1]
theorem is_state_ok (t : Stt) (S : Sto) (h : Ok t) : Ev 8 24 [encT t] S (some (.ok (.bl true), S)) := by
  refine Ev.body (k := 7) (c := c24) (ρ := [.v (encT t)]) rfl rfl rfl fun d hd => ?_
  have h1 := is_store_ok t.s S h d hd
  have h2 := choices2 t.c S d (by omega)
  have e6 : uEq (.int 2) (.int 2) = some true := by kernel_rfl
  simp [endU, evL_disp, exB, exS, evE, evEs, evO, evT, evP, evAnd, evOr, bindE, bindO, optO, pureO, nxS, optS, slotU, slotP, isiU, asB, asI, isNonU, uIdx, uSlc, seqOf, seqM, L2.atI, L2.ixN, uCmp, uBin, uAdd, uBlt, line, setTg, tup2, ownLen, ownOf, popM, augM, appU, extU, lstOf, frzU, c24, encT, h1, h2, e6]
theorem check_state_ok (t : Stt) (S : Sto) (h : Ok t) : Ev 9 25 [encT t] S (some (.ok .non, S)) := by
  refine Ev.body (k := 8) (c := c25) (ρ := [.v (encT t)]) rfl rfl rfl fun d hd => ?_
  have h1 := is_state_ok t S h d hd
  simp [endU, evL_disp, exB, exS, evE, evEs, evO, evT, evP, evAnd, evOr, bindE, bindO, optO, pureO, nxS, optS, slotU, slotP, isiU, asB, asI, isNonU, uIdx, uSlc, seqOf, seqM, L2.atI, L2.ixN, uCmp, uBin, uAdd, uBlt, line, setTg, tup2, ownLen, ownOf, popM, augM, appU, extU, lstOf, frzU, c25, h1]
theorem state_of_ok (t : Stt) (S : Sto) (h : Ok t) : Ev 8 26 [encV t.s, enc2 t.c] S (some (.ok (encT t), S)) := by
  refine Ev.body (k := 7) (c := c26) (ρ := [.v (encV t.s), .v (enc2 t.c)]) rfl rfl rfl fun d hd => ?_
  have h1 := is_store_ok t.s S h d hd
  have h2 := choices2 t.c S d (by omega)
  simp [endU, evL_disp, exB, exS, evE, evEs, evO, evT, evP, evAnd, evOr, bindE, bindO, optO, pureO, nxS, optS, slotU, slotP, isiU, asB, asI, isNonU, uIdx, uSlc, seqOf, seqM, L2.atI, L2.ixN, uCmp, uBin, uAdd, uBlt, line, setTg, tup2, ownLen, ownOf, popM, augM, appU, extU, lstOf, frzU, c26, encT, h1, h2]
end Pl
end
section
set_option maxRecDepth 100000
set_option maxHeartbeats 4000000
namespace Pl
open PySem Wy Core49
inductive Ed where
  | put (n : Nm) (v : Va) | drop (n : Nm) | dropz | choose (m : Cm) (i : Nat) | unch (m : Cm)
  | part (n : Nm) (p : List St) (v : Va) | ahead (n : Nm) (p : List St) (v : Va) | cut (n : Nm) (p : List St)
def encE : Ed → U
  | .put n v => .tup [.str "put", encN n, enc v]
  | .drop n => .tup [.str "drop", encN n]
  | .dropz => .tup [.str "drop", .str "z"]
  | .choose m i => .tup [.str "choose", encM m, .int i]
  | .unch m => .tup [.str "unchoose", encM m]
  | .part n p v => .tup [.str "part", encN n, encP p, enc v]
  | .ahead n p v => .tup [.str "ahead", encN n, encP p, enc v]
  | .cut n p => .tup [.str "cut", encN n, encP p]
def newV (s : V5) : Ed → Option Va
  | .part n p v => (s.get n).bind fun here => wth here p v
  | .ahead n p v => (s.get n).bind fun here => match part here p with
    | some (.lis vs) => wth here p (.lis (.cons v vs))
    | _ => none
  | .cut n p => (s.get n).bind fun here => match part here p with
    | some (.lis (.cons _ vs)) => wth here p (.lis vs)
    | _ => none
  | _ => none
def edS (t : Stt) : Ed → Option Stt
  | .put n v => some ⟨t.s.set n (some v), t.c⟩
  | .drop n => (t.s.get n).map fun _ => ⟨t.s.set n none, t.c⟩
  | .dropz => none
  | .choose m i => some ⟨t.s, t.c.set m (some i)⟩
  | .unch m => (t.c.get m).map fun _ => ⟨t.s, t.c.set m none⟩
  | .part n p v => (newV t.s (.part n p v)).map fun w => ⟨t.s.set n (some w), t.c⟩
  | .ahead n p v => (newV t.s (.ahead n p v)).map fun w => ⟨t.s.set n (some w), t.c⟩
  | .cut n p => (newV t.s (.cut n p)).map fun w => ⟨t.s.set n (some w), t.c⟩
def optT : Option Stt → U
  | none => .non
  | some t => encT t
def pathOf : Ed → List St
  | .part _ p _ => p | .ahead _ p _ => p | .cut _ p => p | _ => []
def valOf : Ed → Option Va
  | .part _ _ v => some v | .ahead _ _ v => some v | .put _ v => some v | _ => none
theorem form_ok (e : Ed) (S : Sto) (h : (pathOf e).length ≤ 500) : Ev 4 35 [encE e] S (some (.ok (.bl true), S)) := by
  cases e with
  | put n v => exact Ev.of fun d => by cases n <;> kernel_rfl
  | drop n => exact Ev.of fun d => by cases n <;> kernel_rfl
  | dropz => exact Ev.of fun d => by kernel_rfl
  | choose m i => exact Ev.of fun d => by cases m <;> kernel_rfl
  | unch m => exact Ev.of fun d => by cases m <;> kernel_rfl
  | part n p v =>
    refine Ev.body (k := 3) (c := c35) (ρ := [.v (encE (.part n p v))]) rfl rfl rfl fun d hd => ?_
    have h1 := is_path_ok S p h d hd
    have h2 : R d 2 [encN n] S = some (.ok (.bl true), S) := (Ev.of (k := 2) (r := some (.ok (.bl true), S)) fun d => by cases n <;> kernel_rfl) d (by omega)
    have l1 : List.lookup ("part" : Str) d_EDIT_SIZES = some 4 := by kernel_rfl
    have e1 : uEq (.int 4) (.int 4) = some true := by kernel_rfl
    have e2 : uCmp .notin (.str "part") (.tup [.str "part", .str "ahead", .str "cut"]) = some false := by kernel_rfl
    have u1 : ∀ a b, uCmp .ne a b = (uEq a b).map (!·) := fun _ _ => rfl
    have u2 : ∀ a b : Int, uCmp .lt (.int a) (.int b) = some (decide (a < b)) := fun _ _ => rfl
    simp [endU, evL_disp, exB, exS, evE, evEs, evOr, bindE, bindO, optO, pureO, nxS, slotU, isiU, asB, uIdx, seqOf, L2.atI, L2.ixN, uBlt, line, c35, encE, h1, h2, l1, e1, e2, u1, u2]
  | ahead n p v =>
    refine Ev.body (k := 3) (c := c35) (ρ := [.v (encE (.ahead n p v))]) rfl rfl rfl fun d hd => ?_
    have h1 := is_path_ok S p h d hd
    have h2 : R d 2 [encN n] S = some (.ok (.bl true), S) := (Ev.of (k := 2) (r := some (.ok (.bl true), S)) fun d => by cases n <;> kernel_rfl) d (by omega)
    have l1 : List.lookup ("ahead" : Str) d_EDIT_SIZES = some 4 := by kernel_rfl
    have e1 : uEq (.int 4) (.int 4) = some true := by kernel_rfl
    have e2 : uCmp .notin (.str "ahead") (.tup [.str "part", .str "ahead", .str "cut"]) = some false := by kernel_rfl
    have u1 : ∀ a b, uCmp .ne a b = (uEq a b).map (!·) := fun _ _ => rfl
    have u2 : ∀ a b : Int, uCmp .lt (.int a) (.int b) = some (decide (a < b)) := fun _ _ => rfl
    simp [endU, evL_disp, exB, exS, evE, evEs, evOr, bindE, bindO, optO, pureO, nxS, slotU, isiU, asB, uIdx, seqOf, L2.atI, L2.ixN, uBlt, line, c35, encE, h1, h2, l1, e1, e2, u1, u2]
  | cut n p =>
    refine Ev.body (k := 3) (c := c35) (ρ := [.v (encE (.cut n p))]) rfl rfl rfl fun d hd => ?_
    have h1 := is_path_ok S p h d hd
    have h2 : R d 2 [encN n] S = some (.ok (.bl true), S) := (Ev.of (k := 2) (r := some (.ok (.bl true), S)) fun d => by cases n <;> kernel_rfl) d (by omega)
    have l1 : List.lookup ("cut" : Str) d_EDIT_SIZES = some 3 := by kernel_rfl
    have e1 : uEq (.int 3) (.int 3) = some true := by kernel_rfl
    have e2 : uCmp .notin (.str "cut") (.tup [.str "part", .str "ahead", .str "cut"]) = some false := by kernel_rfl
    have u1 : ∀ a b, uCmp .ne a b = (uEq a b).map (!·) := fun _ _ => rfl
    have u2 : ∀ a b : Int, uCmp .lt (.int a) (.int b) = some (decide (a < b)) := fun _ _ => rfl
    simp [endU, evL_disp, exB, exS, evE, evEs, evOr, bindE, bindO, optO, pureO, nxS, slotU, isiU, asB, uIdx, seqOf, L2.atI, L2.ixN, uBlt, line, c35, encE, h1, h2, l1, e1, e2, u1, u2]
/-- the items of a list, if there is one -/
def lisOf : Option Va → U
  | some (.lis vs) => .tup (encs vs)
  | _ => .non
theorem list_at_ok (v : Va) (p : List St) (S : Sto) : Ev 3 34 [enc v, encP p] S (some (.ok (lisOf (part v p)), S)) := by
  refine Ev.body (k := 2) (c := c34) (ρ := [.v (enc v), .v (encP p), .nil]) rfl rfl rfl fun d hd => ?_
  have h1 := (Ev.of fun d => raw_part_ok d S v p) d hd
  have hn := isNonU_enc v
  have e1 : uEq (.str "rec") (.str "list") = some false := by kernel_rfl
  have e2 : uEq (.str "case") (.str "list") = some false := by kernel_rfl
  have e3 : uEq (.str "list") (.str "list") = some true := by kernel_rfl
  cases hp : part v p with
  | none =>
    rw [hp] at h1
    simp [endU, exB, exS, evE, evEs, evAnd, bindE, bindO, optO, pureO, nxS, slotU, isiU, asB, c34, hn, h1, lisOf]
  | some w =>
    rw [hp] at h1
    cases w with
    | lf l => cases l <;> simp [endU, exB, exS, evE, evEs, evAnd, bindE, bindO, optO, pureO, nxS, slotU, isiU, asB, c34, hn, h1, lisOf, enc, encF]
    | _ => simp [endU, exB, exS, evE, evEs, evAnd, bindE, bindO, optO, pureO, nxS, slotU, isiU, asB, uIdx, seqOf, L2.atI, L2.ixN, uCmp, c34, hn, h1, lisOf, enc, e1, e2, e3]
end Pl
end
section
set_option maxRecDepth 100000
set_option maxHeartbeats 4000000
namespace Pl
open PySem Wy Core49
theorem isNonU_non : isNonU .non = true := rfl
theorem isNonU_tup (xs : List U) : isNonU (.tup xs) = false := rfl
theorem add_tup1 (u : U) (vs : Vs) (h : len vs ≤ 900) : uBin .add (.tup [u]) (.tup (encs vs)) = some (.tup (u :: encs vs)) := by
  have : 1 + len vs ≤ 1000000 := by omega
  simp [uBin, uAdd, line, len_encs, this]
theorem slc1 (u : U) (us : List U) : uSlc (.tup (u :: us)) (some 1) none = some (.tup us) := by
  show some (U.tup (cutU (u :: us) (some 1) none)) = _
  rw [cut1]
theorem nv_part (s : V5) (n : Nm) (p : List St) (v : Va) (S : Sto) (hs : OkS s) (hv : Small v) (hp : p.length ≤ 400) (hw : ∀ w, newV s (.part n p v) = some w → Small w) : Ev 8 36 [encV s, encE (.part n p v)] S (some (.ok (optE (newV s (.part n p v))), S)) := by
  refine Ev.body (k := 7) (c := c36) (ρ := [.v (encV s), .v (encE (.part n p v)), .nil, .nil]) rfl rfl rfl fun d hd => ?_
  have h1 := under_ok s n S d (by omega)
  have e1 : uEq (.str "part") (.str "part") = some true := by kernel_rfl
  have g := given_ok v S hv.1 hv.2 d (by omega)
  cases hg : s.get n with
  | none =>
    rw [hg] at h1
    simp [endU, exB, exS, evE, evEs, bindE, bindO, optO, pureO, nxS, slotU, asB, uIdx, seqOf, L2.atI, L2.ixN, isNonU_non, isNonU_tup, c36, encE, h1, optE, newV, hg]
  | some here =>
    rw [hg] at h1
    have hn := isNonU_enc here
    have hh := hs n here hg
    have hw' : ∀ w, wth here p v = some w → Small w := fun w h => hw w (by simp only [newV, hg]; exact h)
    have h2 := part_put_ok here p v S (by have := hh.1; have := hv.1; omega) (by omega) hw' d hd
    have u1 : ∀ a b, uCmp .eq a b = uEq a b := fun _ _ => rfl
    simp [endU, exB, exS, evE, evEs, bindE, bindO, optO, pureO, nxS, slotU, asB, uIdx, seqOf, L2.atI, L2.ixN, c36, encE, h1, optE, newV, hg, hn, e1, g, h2, u1]
theorem nv_ahead (s : V5) (n : Nm) (p : List St) (v : Va) (S : Sto) (hs : OkS s) (hv : Small v) (hp : p.length ≤ 400) (hw : ∀ w, newV s (.ahead n p v) = some w → Small w) : Ev 8 36 [encV s, encE (.ahead n p v)] S (some (.ok (optE (newV s (.ahead n p v))), S)) := by
  refine Ev.body (k := 7) (c := c36) (ρ := [.v (encV s), .v (encE (.ahead n p v)), .nil, .nil]) rfl rfl rfl fun d hd => ?_
  have h1 := under_ok s n S d (by omega)
  have e1 : uEq (.str "ahead") (.str "part") = some false := by kernel_rfl
  have e2 : uEq (.str "ahead") (.str "ahead") = some true := by kernel_rfl
  have g := given_ok v S hv.1 hv.2 d (by omega)
  have u1 : ∀ a b, uCmp .eq a b = uEq a b := fun _ _ => rfl
  cases hg : s.get n with
  | none =>
    rw [hg] at h1
    simp [endU, exB, exS, evE, evEs, bindE, bindO, optO, pureO, nxS, slotU, asB, uIdx, seqOf, L2.atI, L2.ixN, isNonU_non, isNonU_tup, c36, encE, h1, optE, newV, hg]
  | some here =>
    rw [hg] at h1
    have hn := isNonU_enc here
    have hh := hs n here hg
    have h3 := list_at_ok here p S d (by omega)
    cases hq : part here p with
    | none =>
      rw [hq] at h3
      simp [endU, exB, exS, evE, evEs, bindE, bindO, optO, pureO, nxS, slotU, asB, uIdx, seqOf, L2.atI, L2.ixN, c36, encE, h1, optE, newV, hg, hn, e1, e2, g, h3, u1, hq, lisOf, isNonU_non, isNonU_tup]
    | some c =>
      rw [hq] at h3
      cases c with
      | lis vs =>
        have hc := nod_part hq
        have hl := len_nods vs
        have hnv : newV s (.ahead n p v) = wth here p (.lis (.cons v vs)) := by simp [newV, hg, hq]
        have h2 := part_put_ok here p (.lis (.cons v vs)) S (by have := hh.1; have := hv.1; simp [nod, nods] at hc ⊢; omega) (by omega) (fun w h => hw w (by rw [hnv]; exact h)) d hd
        have ha := add_tup1 (enc v) vs (by have := hh.1; simp [nod] at hc; omega)
        have h2 : R d 32 [enc here, encP p, .tup [.str "list", .tup (enc v :: encs vs)]] S = _ := h2
        simp [endU, exB, exS, evE, evEs, bindE, bindO, optO, pureO, nxS, slotU, asB, uIdx, seqOf, L2.atI, L2.ixN, c36, encE, h1, optE, hnv, hn, e1, e2, g, h3, u1, lisOf, isNonU_non, isNonU_tup, ha, h2, line]
      | _ => simp [endU, exB, exS, evE, evEs, bindE, bindO, optO, pureO, nxS, slotU, asB, uIdx, seqOf, L2.atI, L2.ixN, c36, encE, h1, optE, newV, hg, hn, e1, e2, g, h3, u1, hq, lisOf, isNonU_non, isNonU_tup]
theorem nv_cut (s : V5) (n : Nm) (p : List St) (S : Sto) (hs : OkS s) (hp : p.length ≤ 400) (hw : ∀ w, newV s (.cut n p) = some w → Small w) : Ev 8 36 [encV s, encE (.cut n p)] S (some (.ok (optE (newV s (.cut n p))), S)) := by
  refine Ev.body (k := 7) (c := c36) (ρ := [.v (encV s), .v (encE (.cut n p)), .nil, .nil]) rfl rfl rfl fun d hd => ?_
  have h1 := under_ok s n S d (by omega)
  have e1 : uEq (.str "cut") (.str "part") = some false := by kernel_rfl
  have e2 : uEq (.str "cut") (.str "ahead") = some false := by kernel_rfl
  have u1 : ∀ a b, uCmp .eq a b = uEq a b := fun _ _ => rfl
  have u2 : ∀ a b : Int, uCmp .gt (.int a) (.int b) = some (decide (b < a)) := fun _ _ => rfl
  have u3 : ∀ a, uBlt S .len (.tup a) = some (.int a.length) := fun _ => rfl
  cases hg : s.get n with
  | none =>
    rw [hg] at h1
    simp [endU, exB, exS, evE, evEs, bindE, bindO, optO, pureO, nxS, slotU, asB, uIdx, seqOf, L2.atI, L2.ixN, isNonU_non, isNonU_tup, c36, encE, h1, optE, newV, hg]
  | some here =>
    rw [hg] at h1
    have hn := isNonU_enc here
    have hh := hs n here hg
    have h3 := list_at_ok here p S d (by omega)
    cases hq : part here p with
    | none =>
      rw [hq] at h3
      simp [endU, exB, exS, evE, evEs, bindE, bindO, optO, pureO, nxS, slotU, asB, uIdx, seqOf, L2.atI, L2.ixN, c36, encE, h1, optE, newV, hg, hn, e1, e2, h3, u1, hq, lisOf, isNonU_non, isNonU_tup]
    | some c =>
      rw [hq] at h3
      cases c with
      | lis vs =>
        cases vs with
        | nil =>
          simp [endU, exB, exS, evE, evEs, bindE, bindO, optO, pureO, nxS, slotU, asB, uIdx, seqOf, L2.atI, L2.ixN, c36, encE, encs, h1, optE, newV, hg, hn, e1, e2, h3, u1, u2, u3, hq, lisOf, isNonU_non, isNonU_tup]
        | cons x vs =>
          have hc := nod_part hq
          have hnv : newV s (.cut n p) = wth here p (.lis vs) := by simp [newV, hg, hq]
          have h2 := part_put_ok here p (.lis vs) S (by have := hh.1; simp [nod, nods] at hc ⊢; omega) (by omega) (fun w h => hw w (by rw [hnv]; exact h)) d hd
          have hz : 0 < (encs (.cons x vs)).length := by simp [encs]
          have hsl : uSlc (.tup (encs (.cons x vs))) (some 1) none = some (.tup (encs vs)) := slc1 _ _
          have h2 : R d 32 [enc here, encP p, .tup [.str "list", .tup (encs vs)]] S = _ := h2
          simp [endU, exB, exS, evE, evEs, evO, bindE, bindO, optO, pureO, nxS, slotU, asB, asI, uIdx, seqOf, L2.atI, L2.ixN, c36, encE, h1, optE, hnv, hn, e1, e2, h3, u1, u2, u3, hz, hsl, lisOf, isNonU_non, isNonU_tup, h2, line]
      | _ => simp [endU, exB, exS, evE, evEs, bindE, bindO, optO, pureO, nxS, slotU, asB, uIdx, seqOf, L2.atI, L2.ixN, c36, encE, h1, optE, newV, hg, hn, e1, e2, h3, u1, hq, lisOf, isNonU_non, isNonU_tup]
end Pl
end
section
set_option maxRecDepth 100000
set_option maxHeartbeats 4000000
namespace Pl
open PySem Wy Core49
theorem wq_put_put : uEq (.str "put") (.str "put") = some true := by kernel_rfl
theorem wq_put_drop : uEq (.str "put") (.str "drop") = some false := by kernel_rfl
theorem wq_put_part : uEq (.str "put") (.str "part") = some false := by kernel_rfl
theorem wq_put_ahead : uEq (.str "put") (.str "ahead") = some false := by kernel_rfl
theorem wq_put_cut : uEq (.str "put") (.str "cut") = some false := by kernel_rfl
theorem wq_put_choose : uEq (.str "put") (.str "choose") = some false := by kernel_rfl
theorem wq_put_unchoose : uEq (.str "put") (.str "unchoose") = some false := by kernel_rfl
theorem wq_drop_put : uEq (.str "drop") (.str "put") = some false := by kernel_rfl
theorem wq_drop_drop : uEq (.str "drop") (.str "drop") = some true := by kernel_rfl
theorem wq_drop_part : uEq (.str "drop") (.str "part") = some false := by kernel_rfl
theorem wq_drop_ahead : uEq (.str "drop") (.str "ahead") = some false := by kernel_rfl
theorem wq_drop_cut : uEq (.str "drop") (.str "cut") = some false := by kernel_rfl
theorem wq_drop_choose : uEq (.str "drop") (.str "choose") = some false := by kernel_rfl
theorem wq_drop_unchoose : uEq (.str "drop") (.str "unchoose") = some false := by kernel_rfl
theorem wq_part_put : uEq (.str "part") (.str "put") = some false := by kernel_rfl
theorem wq_part_drop : uEq (.str "part") (.str "drop") = some false := by kernel_rfl
theorem wq_part_part : uEq (.str "part") (.str "part") = some true := by kernel_rfl
theorem wq_part_ahead : uEq (.str "part") (.str "ahead") = some false := by kernel_rfl
theorem wq_part_cut : uEq (.str "part") (.str "cut") = some false := by kernel_rfl
theorem wq_part_choose : uEq (.str "part") (.str "choose") = some false := by kernel_rfl
theorem wq_part_unchoose : uEq (.str "part") (.str "unchoose") = some false := by kernel_rfl
theorem wq_ahead_put : uEq (.str "ahead") (.str "put") = some false := by kernel_rfl
theorem wq_ahead_drop : uEq (.str "ahead") (.str "drop") = some false := by kernel_rfl
theorem wq_ahead_part : uEq (.str "ahead") (.str "part") = some false := by kernel_rfl
theorem wq_ahead_ahead : uEq (.str "ahead") (.str "ahead") = some true := by kernel_rfl
theorem wq_ahead_cut : uEq (.str "ahead") (.str "cut") = some false := by kernel_rfl
theorem wq_ahead_choose : uEq (.str "ahead") (.str "choose") = some false := by kernel_rfl
theorem wq_ahead_unchoose : uEq (.str "ahead") (.str "unchoose") = some false := by kernel_rfl
theorem wq_cut_put : uEq (.str "cut") (.str "put") = some false := by kernel_rfl
theorem wq_cut_drop : uEq (.str "cut") (.str "drop") = some false := by kernel_rfl
theorem wq_cut_part : uEq (.str "cut") (.str "part") = some false := by kernel_rfl
theorem wq_cut_ahead : uEq (.str "cut") (.str "ahead") = some false := by kernel_rfl
theorem wq_cut_cut : uEq (.str "cut") (.str "cut") = some true := by kernel_rfl
theorem wq_cut_choose : uEq (.str "cut") (.str "choose") = some false := by kernel_rfl
theorem wq_cut_unchoose : uEq (.str "cut") (.str "unchoose") = some false := by kernel_rfl
theorem wq_choose_put : uEq (.str "choose") (.str "put") = some false := by kernel_rfl
theorem wq_choose_drop : uEq (.str "choose") (.str "drop") = some false := by kernel_rfl
theorem wq_choose_part : uEq (.str "choose") (.str "part") = some false := by kernel_rfl
theorem wq_choose_ahead : uEq (.str "choose") (.str "ahead") = some false := by kernel_rfl
theorem wq_choose_cut : uEq (.str "choose") (.str "cut") = some false := by kernel_rfl
theorem wq_choose_choose : uEq (.str "choose") (.str "choose") = some true := by kernel_rfl
theorem wq_choose_unchoose : uEq (.str "choose") (.str "unchoose") = some false := by kernel_rfl
theorem wq_unchoose_put : uEq (.str "unchoose") (.str "put") = some false := by kernel_rfl
theorem wq_unchoose_drop : uEq (.str "unchoose") (.str "drop") = some false := by kernel_rfl
theorem wq_unchoose_part : uEq (.str "unchoose") (.str "part") = some false := by kernel_rfl
theorem wq_unchoose_ahead : uEq (.str "unchoose") (.str "ahead") = some false := by kernel_rfl
theorem wq_unchoose_cut : uEq (.str "unchoose") (.str "cut") = some false := by kernel_rfl
theorem wq_unchoose_choose : uEq (.str "unchoose") (.str "choose") = some false := by kernel_rfl
theorem wq_unchoose_unchoose : uEq (.str "unchoose") (.str "unchoose") = some true := by kernel_rfl
theorem wi_put_drop_unchoose : uCmp .isin (.str "put") (.tup [.str "drop", .str "unchoose"]) = some false := by kernel_rfl
theorem wi_drop_drop_unchoose : uCmp .isin (.str "drop") (.tup [.str "drop", .str "unchoose"]) = some true := by kernel_rfl
theorem wi_part_drop_unchoose : uCmp .isin (.str "part") (.tup [.str "drop", .str "unchoose"]) = some false := by kernel_rfl
theorem wi_ahead_drop_unchoose : uCmp .isin (.str "ahead") (.tup [.str "drop", .str "unchoose"]) = some false := by kernel_rfl
theorem wi_cut_drop_unchoose : uCmp .isin (.str "cut") (.tup [.str "drop", .str "unchoose"]) = some false := by kernel_rfl
theorem wi_choose_drop_unchoose : uCmp .isin (.str "choose") (.tup [.str "drop", .str "unchoose"]) = some false := by kernel_rfl
theorem wi_unchoose_drop_unchoose : uCmp .isin (.str "unchoose") (.tup [.str "drop", .str "unchoose"]) = some true := by kernel_rfl
theorem wi_put_choose_unchoose : uCmp .isin (.str "put") (.tup [.str "choose", .str "unchoose"]) = some false := by kernel_rfl
theorem wi_drop_choose_unchoose : uCmp .isin (.str "drop") (.tup [.str "choose", .str "unchoose"]) = some false := by kernel_rfl
theorem wi_part_choose_unchoose : uCmp .isin (.str "part") (.tup [.str "choose", .str "unchoose"]) = some false := by kernel_rfl
theorem wi_ahead_choose_unchoose : uCmp .isin (.str "ahead") (.tup [.str "choose", .str "unchoose"]) = some false := by kernel_rfl
theorem wi_cut_choose_unchoose : uCmp .isin (.str "cut") (.tup [.str "choose", .str "unchoose"]) = some false := by kernel_rfl
theorem wi_choose_choose_unchoose : uCmp .isin (.str "choose") (.tup [.str "choose", .str "unchoose"]) = some true := by kernel_rfl
theorem wi_unchoose_choose_unchoose : uCmp .isin (.str "unchoose") (.tup [.str "choose", .str "unchoose"]) = some true := by kernel_rfl
theorem wi_put_put_drop : uCmp .isin (.str "put") (.tup [.str "put", .str "drop"]) = some true := by kernel_rfl
theorem wi_drop_put_drop : uCmp .isin (.str "drop") (.tup [.str "put", .str "drop"]) = some true := by kernel_rfl
theorem wi_part_put_drop : uCmp .isin (.str "part") (.tup [.str "put", .str "drop"]) = some false := by kernel_rfl
theorem wi_ahead_put_drop : uCmp .isin (.str "ahead") (.tup [.str "put", .str "drop"]) = some false := by kernel_rfl
theorem wi_cut_put_drop : uCmp .isin (.str "cut") (.tup [.str "put", .str "drop"]) = some false := by kernel_rfl
theorem wi_choose_put_drop : uCmp .isin (.str "choose") (.tup [.str "put", .str "drop"]) = some false := by kernel_rfl
theorem wi_unchoose_put_drop : uCmp .isin (.str "unchoose") (.tup [.str "put", .str "drop"]) = some false := by kernel_rfl
theorem uc_eq (a b : U) : uCmp .eq a b = uEq a b := rfl
theorem uc_ne (a b : U) : uCmp .ne a b = (uEq a b).map (!·) := rfl
theorem uc_gt (a b : Int) : uCmp .gt (.int a) (.int b) = some (decide (b < a)) := rfl
theorem uc_lt (a b : Int) : uCmp .lt (.int a) (.int b) = some (decide (a < b)) := rfl
theorem uc_le (a b : Int) : uCmp .le (.int a) (.int b) = some (decide (a ≤ b)) := rfl
theorem uc_ge (a b : Int) : uCmp .ge (.int a) (.int b) = some (decide (b ≤ a)) := rfl
theorem ul_tup (S : Sto) (a : List U) : uBlt S .len (.tup a) = some (.int a.length) := rfl
theorem ul_lst (S : Sto) (a : List U) : uBlt S .len (.lst a) = some (.int a.length) := rfl
theorem isNonU_int (i : Int) : isNonU (.int i) = false := rfl
end Pl
end
section
set_option maxRecDepth 100000
set_option maxHeartbeats 4000000
namespace Pl
open PySem Wy Core49
structure Good (t : Stt) (e : Ed) : Prop where
  ok : Ok t
  v : ∀ v, valOf e = some v → Small v
  p : (pathOf e).length ≤ 40
  r : ∀ t', edS t e = some t' → Ok t'
theorem isNonU_T (t : Stt) : isNonU (encT t) = false := rfl
theorem isNonU_V (t : V5) : isNonU (encV t) = false := rfl
theorem good_new {t : Stt} {n : Nm} {o : Option Va} (h : ∀ t', (o.map fun w => (⟨t.s.set n (some w), t.c⟩ : Stt)) = some t' → Ok t') : ∀ w, o = some w → Small w := fun w e => by
  have := h ⟨t.s.set n (some w), t.c⟩ (by rw [e]; rfl)
  exact this n w (by simp only [V5.get_set, if_pos])
theorem u_pair (a b : U) : setTg (.t2 2 3) (.tup [a, b]) = fun ρ => some ((ρ.set 2 (.v a)).set 3 (.v b)) := rfl
theorem is_state_e (t : Stt) (S : Sto) (h : Ok t) (d : Nat) (hd : 8 ≤ d) : R d 24 [.tup [encV t.s, enc2 t.c]] S = some (.ok (.bl true), S) := is_state_ok t S h d hd
theorem raw_ed_ok (t : Stt) (e : Ed) (S : Sto) (g : Good t e) : Ev 9 37 [encT t, encE e] S (some (.ok (optT (edS t e)), S)) := by
  refine Ev.body (k := 8) (c := c37) (ρ := [.v (encT t), .v (encE e), .nil, .nil, .nil, .nil, .nil, .nil]) rfl rfl rfl fun d hd => ?_
  have e0 : encT t = .tup [encV t.s, enc2 t.c] := rfl
  cases e with
  | put n v =>
    have h1 := with_name_ok t.s n v S d (by omega)
    have h2 := is_state_e ⟨t.s.set n (some v), t.c⟩ S (g.r _ rfl) d hd
    simp [endU, evL_disp, exB, exS, evE, evEs, evO, evT, evP, evAnd, evOr, bindE, bindO, optO, pureO, nxS, optS, slotU, slotP, asB, asI, line, setTg, tup2, ownOf, appU, frzU, uIdx, seqOf, L2.atI, L2.ixN, isiU, uc_eq, uc_ne, uc_gt, uc_lt, uc_le, uc_ge, ul_tup, ul_lst, isNonU_non, isNonU_tup, isNonU_int, isNonU_enc, wq_put_put, wq_put_drop, wq_put_part, wq_put_ahead, wq_put_cut, wq_put_choose, wq_put_unchoose, wq_drop_put, wq_drop_drop, wq_drop_part, wq_drop_ahead, wq_drop_cut, wq_drop_choose, wq_drop_unchoose, wq_part_put, wq_part_drop, wq_part_part, wq_part_ahead, wq_part_cut, wq_part_choose, wq_part_unchoose, wq_ahead_put, wq_ahead_drop, wq_ahead_part, wq_ahead_ahead, wq_ahead_cut, wq_ahead_choose, wq_ahead_unchoose, wq_cut_put, wq_cut_drop, wq_cut_part, wq_cut_ahead, wq_cut_cut, wq_cut_choose, wq_cut_unchoose, wq_choose_put, wq_choose_drop, wq_choose_part, wq_choose_ahead, wq_choose_cut, wq_choose_choose, wq_choose_unchoose, wq_unchoose_put, wq_unchoose_drop, wq_unchoose_part, wq_unchoose_ahead, wq_unchoose_cut, wq_unchoose_choose, wq_unchoose_unchoose, wi_put_drop_unchoose, wi_drop_drop_unchoose, wi_part_drop_unchoose, wi_ahead_drop_unchoose, wi_cut_drop_unchoose, wi_choose_drop_unchoose, wi_unchoose_drop_unchoose, wi_put_choose_unchoose, wi_drop_choose_unchoose, wi_part_choose_unchoose, wi_ahead_choose_unchoose, wi_cut_choose_unchoose, wi_choose_choose_unchoose, wi_unchoose_choose_unchoose, wi_put_put_drop, wi_drop_put_drop, wi_part_put_drop, wi_ahead_put_drop, wi_cut_put_drop, wi_choose_put_drop, wi_unchoose_put_drop, c37, e0, encE, h1, h2, edS, optT]
    rfl
  | drop n =>
    have h1 := under_ok t.s n S d (by omega)
    have h2 := without_name_ok t.s n S d (by omega)
    cases hg : t.s.get n with
    | none =>
      rw [hg] at h1
      simp [endU, evL_disp, exB, exS, evE, evEs, evO, evT, evP, evAnd, evOr, bindE, bindO, optO, pureO, nxS, optS, slotU, slotP, asB, asI, line, setTg, tup2, ownOf, appU, frzU, uIdx, seqOf, L2.atI, L2.ixN, isiU, uc_eq, uc_ne, uc_gt, uc_lt, uc_le, uc_ge, ul_tup, ul_lst, isNonU_non, isNonU_tup, isNonU_int, isNonU_enc, wq_put_put, wq_put_drop, wq_put_part, wq_put_ahead, wq_put_cut, wq_put_choose, wq_put_unchoose, wq_drop_put, wq_drop_drop, wq_drop_part, wq_drop_ahead, wq_drop_cut, wq_drop_choose, wq_drop_unchoose, wq_part_put, wq_part_drop, wq_part_part, wq_part_ahead, wq_part_cut, wq_part_choose, wq_part_unchoose, wq_ahead_put, wq_ahead_drop, wq_ahead_part, wq_ahead_ahead, wq_ahead_cut, wq_ahead_choose, wq_ahead_unchoose, wq_cut_put, wq_cut_drop, wq_cut_part, wq_cut_ahead, wq_cut_cut, wq_cut_choose, wq_cut_unchoose, wq_choose_put, wq_choose_drop, wq_choose_part, wq_choose_ahead, wq_choose_cut, wq_choose_choose, wq_choose_unchoose, wq_unchoose_put, wq_unchoose_drop, wq_unchoose_part, wq_unchoose_ahead, wq_unchoose_cut, wq_unchoose_choose, wq_unchoose_unchoose, wi_put_drop_unchoose, wi_drop_drop_unchoose, wi_part_drop_unchoose, wi_ahead_drop_unchoose, wi_cut_drop_unchoose, wi_choose_drop_unchoose, wi_unchoose_drop_unchoose, wi_put_choose_unchoose, wi_drop_choose_unchoose, wi_part_choose_unchoose, wi_ahead_choose_unchoose, wi_cut_choose_unchoose, wi_choose_choose_unchoose, wi_unchoose_choose_unchoose, wi_put_put_drop, wi_drop_put_drop, wi_part_put_drop, wi_ahead_put_drop, wi_cut_put_drop, wi_choose_put_drop, wi_unchoose_put_drop, c37, e0, encE, h1, h2, edS, optT, optE, hg]
    | some x =>
      rw [hg] at h1
      simp [endU, evL_disp, exB, exS, evE, evEs, evO, evT, evP, evAnd, evOr, bindE, bindO, optO, pureO, nxS, optS, slotU, slotP, asB, asI, line, setTg, tup2, ownOf, appU, frzU, uIdx, seqOf, L2.atI, L2.ixN, isiU, uc_eq, uc_ne, uc_gt, uc_lt, uc_le, uc_ge, ul_tup, ul_lst, isNonU_non, isNonU_tup, isNonU_int, isNonU_enc, wq_put_put, wq_put_drop, wq_put_part, wq_put_ahead, wq_put_cut, wq_put_choose, wq_put_unchoose, wq_drop_put, wq_drop_drop, wq_drop_part, wq_drop_ahead, wq_drop_cut, wq_drop_choose, wq_drop_unchoose, wq_part_put, wq_part_drop, wq_part_part, wq_part_ahead, wq_part_cut, wq_part_choose, wq_part_unchoose, wq_ahead_put, wq_ahead_drop, wq_ahead_part, wq_ahead_ahead, wq_ahead_cut, wq_ahead_choose, wq_ahead_unchoose, wq_cut_put, wq_cut_drop, wq_cut_part, wq_cut_ahead, wq_cut_cut, wq_cut_choose, wq_cut_unchoose, wq_choose_put, wq_choose_drop, wq_choose_part, wq_choose_ahead, wq_choose_cut, wq_choose_choose, wq_choose_unchoose, wq_unchoose_put, wq_unchoose_drop, wq_unchoose_part, wq_unchoose_ahead, wq_unchoose_cut, wq_unchoose_choose, wq_unchoose_unchoose, wi_put_drop_unchoose, wi_drop_drop_unchoose, wi_part_drop_unchoose, wi_ahead_drop_unchoose, wi_cut_drop_unchoose, wi_choose_drop_unchoose, wi_unchoose_drop_unchoose, wi_put_choose_unchoose, wi_drop_choose_unchoose, wi_part_choose_unchoose, wi_ahead_choose_unchoose, wi_cut_choose_unchoose, wi_choose_choose_unchoose, wi_unchoose_choose_unchoose, wi_put_put_drop, wi_drop_put_drop, wi_part_put_drop, wi_ahead_put_drop, wi_cut_put_drop, wi_choose_put_drop, wi_unchoose_put_drop, c37, e0, encE, h1, h2, edS, optT, optE, hg]
      rfl
  | dropz =>
    have h1 := under5z t.s.u S d (by omega)
    have h1 : R d 29 [encV t.s, .str "z"] S = some (.ok .non, S) := h1
    simp [endU, evL_disp, exB, exS, evE, evEs, evO, evT, evP, evAnd, evOr, bindE, bindO, optO, pureO, nxS, optS, slotU, slotP, asB, asI, line, setTg, tup2, ownOf, appU, frzU, uIdx, seqOf, L2.atI, L2.ixN, isiU, uc_eq, uc_ne, uc_gt, uc_lt, uc_le, uc_ge, ul_tup, ul_lst, isNonU_non, isNonU_tup, isNonU_int, isNonU_enc, wq_put_put, wq_put_drop, wq_put_part, wq_put_ahead, wq_put_cut, wq_put_choose, wq_put_unchoose, wq_drop_put, wq_drop_drop, wq_drop_part, wq_drop_ahead, wq_drop_cut, wq_drop_choose, wq_drop_unchoose, wq_part_put, wq_part_drop, wq_part_part, wq_part_ahead, wq_part_cut, wq_part_choose, wq_part_unchoose, wq_ahead_put, wq_ahead_drop, wq_ahead_part, wq_ahead_ahead, wq_ahead_cut, wq_ahead_choose, wq_ahead_unchoose, wq_cut_put, wq_cut_drop, wq_cut_part, wq_cut_ahead, wq_cut_cut, wq_cut_choose, wq_cut_unchoose, wq_choose_put, wq_choose_drop, wq_choose_part, wq_choose_ahead, wq_choose_cut, wq_choose_choose, wq_choose_unchoose, wq_unchoose_put, wq_unchoose_drop, wq_unchoose_part, wq_unchoose_ahead, wq_unchoose_cut, wq_unchoose_choose, wq_unchoose_unchoose, wi_put_drop_unchoose, wi_drop_drop_unchoose, wi_part_drop_unchoose, wi_ahead_drop_unchoose, wi_cut_drop_unchoose, wi_choose_drop_unchoose, wi_unchoose_drop_unchoose, wi_put_choose_unchoose, wi_drop_choose_unchoose, wi_part_choose_unchoose, wi_ahead_choose_unchoose, wi_cut_choose_unchoose, wi_choose_choose_unchoose, wi_unchoose_choose_unchoose, wi_put_put_drop, wi_drop_put_drop, wi_part_put_drop, wi_ahead_put_drop, wi_cut_put_drop, wi_choose_put_drop, wi_unchoose_put_drop, c37, e0, encE, h1, edS, optT, optE]
  | choose m i =>
    have h1 := with2 t.c m i S d (by omega)
    have h2 := is_state_e ⟨t.s, t.c.set m (some i)⟩ S (g.r _ rfl) d hd
    simp [endU, evL_disp, exB, exS, evE, evEs, evO, evT, evP, evAnd, evOr, bindE, bindO, optO, pureO, nxS, optS, slotU, slotP, asB, asI, line, setTg, tup2, ownOf, appU, frzU, uIdx, seqOf, L2.atI, L2.ixN, isiU, uc_eq, uc_ne, uc_gt, uc_lt, uc_le, uc_ge, ul_tup, ul_lst, isNonU_non, isNonU_tup, isNonU_int, isNonU_enc, wq_put_put, wq_put_drop, wq_put_part, wq_put_ahead, wq_put_cut, wq_put_choose, wq_put_unchoose, wq_drop_put, wq_drop_drop, wq_drop_part, wq_drop_ahead, wq_drop_cut, wq_drop_choose, wq_drop_unchoose, wq_part_put, wq_part_drop, wq_part_part, wq_part_ahead, wq_part_cut, wq_part_choose, wq_part_unchoose, wq_ahead_put, wq_ahead_drop, wq_ahead_part, wq_ahead_ahead, wq_ahead_cut, wq_ahead_choose, wq_ahead_unchoose, wq_cut_put, wq_cut_drop, wq_cut_part, wq_cut_ahead, wq_cut_cut, wq_cut_choose, wq_cut_unchoose, wq_choose_put, wq_choose_drop, wq_choose_part, wq_choose_ahead, wq_choose_cut, wq_choose_choose, wq_choose_unchoose, wq_unchoose_put, wq_unchoose_drop, wq_unchoose_part, wq_unchoose_ahead, wq_unchoose_cut, wq_unchoose_choose, wq_unchoose_unchoose, wi_put_drop_unchoose, wi_drop_drop_unchoose, wi_part_drop_unchoose, wi_ahead_drop_unchoose, wi_cut_drop_unchoose, wi_choose_drop_unchoose, wi_unchoose_drop_unchoose, wi_put_choose_unchoose, wi_drop_choose_unchoose, wi_part_choose_unchoose, wi_ahead_choose_unchoose, wi_cut_choose_unchoose, wi_choose_choose_unchoose, wi_unchoose_choose_unchoose, wi_put_put_drop, wi_drop_put_drop, wi_part_put_drop, wi_ahead_put_drop, wi_cut_put_drop, wi_choose_put_drop, wi_unchoose_put_drop, c37, e0, encE, h1, h2, edS, optT]
    rfl
  | unch m =>
    have h1 := under2 t.c m S d (by omega)
    have h2 := without2 t.c m S d (by omega)
    cases hg : t.c.get m with
    | none =>
      rw [hg] at h1
      simp [endU, evL_disp, exB, exS, evE, evEs, evO, evT, evP, evAnd, evOr, bindE, bindO, optO, pureO, nxS, optS, slotU, slotP, asB, asI, line, setTg, tup2, ownOf, appU, frzU, uIdx, seqOf, L2.atI, L2.ixN, isiU, uc_eq, uc_ne, uc_gt, uc_lt, uc_le, uc_ge, ul_tup, ul_lst, isNonU_non, isNonU_tup, isNonU_int, isNonU_enc, wq_put_put, wq_put_drop, wq_put_part, wq_put_ahead, wq_put_cut, wq_put_choose, wq_put_unchoose, wq_drop_put, wq_drop_drop, wq_drop_part, wq_drop_ahead, wq_drop_cut, wq_drop_choose, wq_drop_unchoose, wq_part_put, wq_part_drop, wq_part_part, wq_part_ahead, wq_part_cut, wq_part_choose, wq_part_unchoose, wq_ahead_put, wq_ahead_drop, wq_ahead_part, wq_ahead_ahead, wq_ahead_cut, wq_ahead_choose, wq_ahead_unchoose, wq_cut_put, wq_cut_drop, wq_cut_part, wq_cut_ahead, wq_cut_cut, wq_cut_choose, wq_cut_unchoose, wq_choose_put, wq_choose_drop, wq_choose_part, wq_choose_ahead, wq_choose_cut, wq_choose_choose, wq_choose_unchoose, wq_unchoose_put, wq_unchoose_drop, wq_unchoose_part, wq_unchoose_ahead, wq_unchoose_cut, wq_unchoose_choose, wq_unchoose_unchoose, wi_put_drop_unchoose, wi_drop_drop_unchoose, wi_part_drop_unchoose, wi_ahead_drop_unchoose, wi_cut_drop_unchoose, wi_choose_drop_unchoose, wi_unchoose_drop_unchoose, wi_put_choose_unchoose, wi_drop_choose_unchoose, wi_part_choose_unchoose, wi_ahead_choose_unchoose, wi_cut_choose_unchoose, wi_choose_choose_unchoose, wi_unchoose_choose_unchoose, wi_put_put_drop, wi_drop_put_drop, wi_part_put_drop, wi_ahead_put_drop, wi_cut_put_drop, wi_choose_put_drop, wi_unchoose_put_drop, c37, e0, encE, h1, h2, edS, optT, optN, hg]
    | some x =>
      rw [hg] at h1
      simp [endU, evL_disp, exB, exS, evE, evEs, evO, evT, evP, evAnd, evOr, bindE, bindO, optO, pureO, nxS, optS, slotU, slotP, asB, asI, line, setTg, tup2, ownOf, appU, frzU, uIdx, seqOf, L2.atI, L2.ixN, isiU, uc_eq, uc_ne, uc_gt, uc_lt, uc_le, uc_ge, ul_tup, ul_lst, isNonU_non, isNonU_tup, isNonU_int, isNonU_enc, wq_put_put, wq_put_drop, wq_put_part, wq_put_ahead, wq_put_cut, wq_put_choose, wq_put_unchoose, wq_drop_put, wq_drop_drop, wq_drop_part, wq_drop_ahead, wq_drop_cut, wq_drop_choose, wq_drop_unchoose, wq_part_put, wq_part_drop, wq_part_part, wq_part_ahead, wq_part_cut, wq_part_choose, wq_part_unchoose, wq_ahead_put, wq_ahead_drop, wq_ahead_part, wq_ahead_ahead, wq_ahead_cut, wq_ahead_choose, wq_ahead_unchoose, wq_cut_put, wq_cut_drop, wq_cut_part, wq_cut_ahead, wq_cut_cut, wq_cut_choose, wq_cut_unchoose, wq_choose_put, wq_choose_drop, wq_choose_part, wq_choose_ahead, wq_choose_cut, wq_choose_choose, wq_choose_unchoose, wq_unchoose_put, wq_unchoose_drop, wq_unchoose_part, wq_unchoose_ahead, wq_unchoose_cut, wq_unchoose_choose, wq_unchoose_unchoose, wi_put_drop_unchoose, wi_drop_drop_unchoose, wi_part_drop_unchoose, wi_ahead_drop_unchoose, wi_cut_drop_unchoose, wi_choose_drop_unchoose, wi_unchoose_drop_unchoose, wi_put_choose_unchoose, wi_drop_choose_unchoose, wi_part_choose_unchoose, wi_ahead_choose_unchoose, wi_cut_choose_unchoose, wi_choose_choose_unchoose, wi_unchoose_choose_unchoose, wi_put_put_drop, wi_drop_put_drop, wi_part_put_drop, wi_ahead_put_drop, wi_cut_put_drop, wi_choose_put_drop, wi_unchoose_put_drop, c37, e0, encE, h1, h2, edS, optT, optN, hg]
      rfl
  | part n p v =>
    have hw := good_new (t := t) (n := n) (o := newV t.s (.part n p v)) g.r
    have h1 := nv_part t.s n p v S g.ok (g.v v rfl) (Nat.le_trans g.p (by decide)) hw d hd
    have e1 : encE (.part n p v) = .tup [.str "part", encN n, encP p, enc v] := rfl
    cases hi : newV t.s (.part n p v) with
    | none =>
      rw [hi, e1] at h1
      simp [endU, evL_disp, exB, exS, evE, evEs, evO, evT, evP, evAnd, evOr, bindE, bindO, optO, pureO, nxS, optS, slotU, slotP, asB, asI, line, setTg, tup2, ownOf, appU, frzU, uIdx, seqOf, L2.atI, L2.ixN, isiU, uc_eq, uc_ne, uc_gt, uc_lt, uc_le, uc_ge, ul_tup, ul_lst, isNonU_non, isNonU_tup, isNonU_int, isNonU_enc, wq_put_put, wq_put_drop, wq_put_part, wq_put_ahead, wq_put_cut, wq_put_choose, wq_put_unchoose, wq_drop_put, wq_drop_drop, wq_drop_part, wq_drop_ahead, wq_drop_cut, wq_drop_choose, wq_drop_unchoose, wq_part_put, wq_part_drop, wq_part_part, wq_part_ahead, wq_part_cut, wq_part_choose, wq_part_unchoose, wq_ahead_put, wq_ahead_drop, wq_ahead_part, wq_ahead_ahead, wq_ahead_cut, wq_ahead_choose, wq_ahead_unchoose, wq_cut_put, wq_cut_drop, wq_cut_part, wq_cut_ahead, wq_cut_cut, wq_cut_choose, wq_cut_unchoose, wq_choose_put, wq_choose_drop, wq_choose_part, wq_choose_ahead, wq_choose_cut, wq_choose_choose, wq_choose_unchoose, wq_unchoose_put, wq_unchoose_drop, wq_unchoose_part, wq_unchoose_ahead, wq_unchoose_cut, wq_unchoose_choose, wq_unchoose_unchoose, wi_put_drop_unchoose, wi_drop_drop_unchoose, wi_part_drop_unchoose, wi_ahead_drop_unchoose, wi_cut_drop_unchoose, wi_choose_drop_unchoose, wi_unchoose_drop_unchoose, wi_put_choose_unchoose, wi_drop_choose_unchoose, wi_part_choose_unchoose, wi_ahead_choose_unchoose, wi_cut_choose_unchoose, wi_choose_choose_unchoose, wi_unchoose_choose_unchoose, wi_put_put_drop, wi_drop_put_drop, wi_part_put_drop, wi_ahead_put_drop, wi_cut_put_drop, wi_choose_put_drop, wi_unchoose_put_drop, c37, e0, e1, h1, edS, optT, optE, hi]
    | some w =>
      rw [hi, e1] at h1
      have h2 := with_name_ok t.s n w S d (by omega)
      have h3 := is_state_e ⟨t.s.set n (some w), t.c⟩ S (g.r _ (by simp only [edS, hi]; rfl)) d hd
      simp [endU, evL_disp, exB, exS, evE, evEs, evO, evT, evP, evAnd, evOr, bindE, bindO, optO, pureO, nxS, optS, slotU, slotP, asB, asI, line, setTg, tup2, ownOf, appU, frzU, uIdx, seqOf, L2.atI, L2.ixN, isiU, uc_eq, uc_ne, uc_gt, uc_lt, uc_le, uc_ge, ul_tup, ul_lst, isNonU_non, isNonU_tup, isNonU_int, isNonU_enc, wq_put_put, wq_put_drop, wq_put_part, wq_put_ahead, wq_put_cut, wq_put_choose, wq_put_unchoose, wq_drop_put, wq_drop_drop, wq_drop_part, wq_drop_ahead, wq_drop_cut, wq_drop_choose, wq_drop_unchoose, wq_part_put, wq_part_drop, wq_part_part, wq_part_ahead, wq_part_cut, wq_part_choose, wq_part_unchoose, wq_ahead_put, wq_ahead_drop, wq_ahead_part, wq_ahead_ahead, wq_ahead_cut, wq_ahead_choose, wq_ahead_unchoose, wq_cut_put, wq_cut_drop, wq_cut_part, wq_cut_ahead, wq_cut_cut, wq_cut_choose, wq_cut_unchoose, wq_choose_put, wq_choose_drop, wq_choose_part, wq_choose_ahead, wq_choose_cut, wq_choose_choose, wq_choose_unchoose, wq_unchoose_put, wq_unchoose_drop, wq_unchoose_part, wq_unchoose_ahead, wq_unchoose_cut, wq_unchoose_choose, wq_unchoose_unchoose, wi_put_drop_unchoose, wi_drop_drop_unchoose, wi_part_drop_unchoose, wi_ahead_drop_unchoose, wi_cut_drop_unchoose, wi_choose_drop_unchoose, wi_unchoose_drop_unchoose, wi_put_choose_unchoose, wi_drop_choose_unchoose, wi_part_choose_unchoose, wi_ahead_choose_unchoose, wi_cut_choose_unchoose, wi_choose_choose_unchoose, wi_unchoose_choose_unchoose, wi_put_put_drop, wi_drop_put_drop, wi_part_put_drop, wi_ahead_put_drop, wi_cut_put_drop, wi_choose_put_drop, wi_unchoose_put_drop, c37, e0, e1, h1, h2, h3, edS, optT, optE, hi]
      rfl
  | ahead n p v =>
    have hw := good_new (t := t) (n := n) (o := newV t.s (.ahead n p v)) g.r
    have h1 := nv_ahead t.s n p v S g.ok (g.v v rfl) (Nat.le_trans g.p (by decide)) hw d hd
    have e1 : encE (.ahead n p v) = .tup [.str "ahead", encN n, encP p, enc v] := rfl
    cases hi : newV t.s (.ahead n p v) with
    | none =>
      rw [hi, e1] at h1
      simp [endU, evL_disp, exB, exS, evE, evEs, evO, evT, evP, evAnd, evOr, bindE, bindO, optO, pureO, nxS, optS, slotU, slotP, asB, asI, line, setTg, tup2, ownOf, appU, frzU, uIdx, seqOf, L2.atI, L2.ixN, isiU, uc_eq, uc_ne, uc_gt, uc_lt, uc_le, uc_ge, ul_tup, ul_lst, isNonU_non, isNonU_tup, isNonU_int, isNonU_enc, wq_put_put, wq_put_drop, wq_put_part, wq_put_ahead, wq_put_cut, wq_put_choose, wq_put_unchoose, wq_drop_put, wq_drop_drop, wq_drop_part, wq_drop_ahead, wq_drop_cut, wq_drop_choose, wq_drop_unchoose, wq_part_put, wq_part_drop, wq_part_part, wq_part_ahead, wq_part_cut, wq_part_choose, wq_part_unchoose, wq_ahead_put, wq_ahead_drop, wq_ahead_part, wq_ahead_ahead, wq_ahead_cut, wq_ahead_choose, wq_ahead_unchoose, wq_cut_put, wq_cut_drop, wq_cut_part, wq_cut_ahead, wq_cut_cut, wq_cut_choose, wq_cut_unchoose, wq_choose_put, wq_choose_drop, wq_choose_part, wq_choose_ahead, wq_choose_cut, wq_choose_choose, wq_choose_unchoose, wq_unchoose_put, wq_unchoose_drop, wq_unchoose_part, wq_unchoose_ahead, wq_unchoose_cut, wq_unchoose_choose, wq_unchoose_unchoose, wi_put_drop_unchoose, wi_drop_drop_unchoose, wi_part_drop_unchoose, wi_ahead_drop_unchoose, wi_cut_drop_unchoose, wi_choose_drop_unchoose, wi_unchoose_drop_unchoose, wi_put_choose_unchoose, wi_drop_choose_unchoose, wi_part_choose_unchoose, wi_ahead_choose_unchoose, wi_cut_choose_unchoose, wi_choose_choose_unchoose, wi_unchoose_choose_unchoose, wi_put_put_drop, wi_drop_put_drop, wi_part_put_drop, wi_ahead_put_drop, wi_cut_put_drop, wi_choose_put_drop, wi_unchoose_put_drop, c37, e0, e1, h1, edS, optT, optE, hi]
    | some w =>
      rw [hi, e1] at h1
      have h2 := with_name_ok t.s n w S d (by omega)
      have h3 := is_state_e ⟨t.s.set n (some w), t.c⟩ S (g.r _ (by simp only [edS, hi]; rfl)) d hd
      simp [endU, evL_disp, exB, exS, evE, evEs, evO, evT, evP, evAnd, evOr, bindE, bindO, optO, pureO, nxS, optS, slotU, slotP, asB, asI, line, setTg, tup2, ownOf, appU, frzU, uIdx, seqOf, L2.atI, L2.ixN, isiU, uc_eq, uc_ne, uc_gt, uc_lt, uc_le, uc_ge, ul_tup, ul_lst, isNonU_non, isNonU_tup, isNonU_int, isNonU_enc, wq_put_put, wq_put_drop, wq_put_part, wq_put_ahead, wq_put_cut, wq_put_choose, wq_put_unchoose, wq_drop_put, wq_drop_drop, wq_drop_part, wq_drop_ahead, wq_drop_cut, wq_drop_choose, wq_drop_unchoose, wq_part_put, wq_part_drop, wq_part_part, wq_part_ahead, wq_part_cut, wq_part_choose, wq_part_unchoose, wq_ahead_put, wq_ahead_drop, wq_ahead_part, wq_ahead_ahead, wq_ahead_cut, wq_ahead_choose, wq_ahead_unchoose, wq_cut_put, wq_cut_drop, wq_cut_part, wq_cut_ahead, wq_cut_cut, wq_cut_choose, wq_cut_unchoose, wq_choose_put, wq_choose_drop, wq_choose_part, wq_choose_ahead, wq_choose_cut, wq_choose_choose, wq_choose_unchoose, wq_unchoose_put, wq_unchoose_drop, wq_unchoose_part, wq_unchoose_ahead, wq_unchoose_cut, wq_unchoose_choose, wq_unchoose_unchoose, wi_put_drop_unchoose, wi_drop_drop_unchoose, wi_part_drop_unchoose, wi_ahead_drop_unchoose, wi_cut_drop_unchoose, wi_choose_drop_unchoose, wi_unchoose_drop_unchoose, wi_put_choose_unchoose, wi_drop_choose_unchoose, wi_part_choose_unchoose, wi_ahead_choose_unchoose, wi_cut_choose_unchoose, wi_choose_choose_unchoose, wi_unchoose_choose_unchoose, wi_put_put_drop, wi_drop_put_drop, wi_part_put_drop, wi_ahead_put_drop, wi_cut_put_drop, wi_choose_put_drop, wi_unchoose_put_drop, c37, e0, e1, h1, h2, h3, edS, optT, optE, hi]
      rfl
  | cut n p =>
    have hw := good_new (t := t) (n := n) (o := newV t.s (.cut n p)) g.r
    have h1 := nv_cut t.s n p S g.ok (Nat.le_trans g.p (by decide)) hw d hd
    have e1 : encE (.cut n p) = .tup [.str "cut", encN n, encP p] := rfl
    cases hi : newV t.s (.cut n p) with
    | none =>
      rw [hi, e1] at h1
      simp [endU, evL_disp, exB, exS, evE, evEs, evO, evT, evP, evAnd, evOr, bindE, bindO, optO, pureO, nxS, optS, slotU, slotP, asB, asI, line, setTg, tup2, ownOf, appU, frzU, uIdx, seqOf, L2.atI, L2.ixN, isiU, uc_eq, uc_ne, uc_gt, uc_lt, uc_le, uc_ge, ul_tup, ul_lst, isNonU_non, isNonU_tup, isNonU_int, isNonU_enc, wq_put_put, wq_put_drop, wq_put_part, wq_put_ahead, wq_put_cut, wq_put_choose, wq_put_unchoose, wq_drop_put, wq_drop_drop, wq_drop_part, wq_drop_ahead, wq_drop_cut, wq_drop_choose, wq_drop_unchoose, wq_part_put, wq_part_drop, wq_part_part, wq_part_ahead, wq_part_cut, wq_part_choose, wq_part_unchoose, wq_ahead_put, wq_ahead_drop, wq_ahead_part, wq_ahead_ahead, wq_ahead_cut, wq_ahead_choose, wq_ahead_unchoose, wq_cut_put, wq_cut_drop, wq_cut_part, wq_cut_ahead, wq_cut_cut, wq_cut_choose, wq_cut_unchoose, wq_choose_put, wq_choose_drop, wq_choose_part, wq_choose_ahead, wq_choose_cut, wq_choose_choose, wq_choose_unchoose, wq_unchoose_put, wq_unchoose_drop, wq_unchoose_part, wq_unchoose_ahead, wq_unchoose_cut, wq_unchoose_choose, wq_unchoose_unchoose, wi_put_drop_unchoose, wi_drop_drop_unchoose, wi_part_drop_unchoose, wi_ahead_drop_unchoose, wi_cut_drop_unchoose, wi_choose_drop_unchoose, wi_unchoose_drop_unchoose, wi_put_choose_unchoose, wi_drop_choose_unchoose, wi_part_choose_unchoose, wi_ahead_choose_unchoose, wi_cut_choose_unchoose, wi_choose_choose_unchoose, wi_unchoose_choose_unchoose, wi_put_put_drop, wi_drop_put_drop, wi_part_put_drop, wi_ahead_put_drop, wi_cut_put_drop, wi_choose_put_drop, wi_unchoose_put_drop, c37, e0, e1, h1, edS, optT, optE, hi]
    | some w =>
      rw [hi, e1] at h1
      have h2 := with_name_ok t.s n w S d (by omega)
      have h3 := is_state_e ⟨t.s.set n (some w), t.c⟩ S (g.r _ (by simp only [edS, hi]; rfl)) d hd
      simp [endU, evL_disp, exB, exS, evE, evEs, evO, evT, evP, evAnd, evOr, bindE, bindO, optO, pureO, nxS, optS, slotU, slotP, asB, asI, line, setTg, tup2, ownOf, appU, frzU, uIdx, seqOf, L2.atI, L2.ixN, isiU, uc_eq, uc_ne, uc_gt, uc_lt, uc_le, uc_ge, ul_tup, ul_lst, isNonU_non, isNonU_tup, isNonU_int, isNonU_enc, wq_put_put, wq_put_drop, wq_put_part, wq_put_ahead, wq_put_cut, wq_put_choose, wq_put_unchoose, wq_drop_put, wq_drop_drop, wq_drop_part, wq_drop_ahead, wq_drop_cut, wq_drop_choose, wq_drop_unchoose, wq_part_put, wq_part_drop, wq_part_part, wq_part_ahead, wq_part_cut, wq_part_choose, wq_part_unchoose, wq_ahead_put, wq_ahead_drop, wq_ahead_part, wq_ahead_ahead, wq_ahead_cut, wq_ahead_choose, wq_ahead_unchoose, wq_cut_put, wq_cut_drop, wq_cut_part, wq_cut_ahead, wq_cut_cut, wq_cut_choose, wq_cut_unchoose, wq_choose_put, wq_choose_drop, wq_choose_part, wq_choose_ahead, wq_choose_cut, wq_choose_choose, wq_choose_unchoose, wq_unchoose_put, wq_unchoose_drop, wq_unchoose_part, wq_unchoose_ahead, wq_unchoose_cut, wq_unchoose_choose, wq_unchoose_unchoose, wi_put_drop_unchoose, wi_drop_drop_unchoose, wi_part_drop_unchoose, wi_ahead_drop_unchoose, wi_cut_drop_unchoose, wi_choose_drop_unchoose, wi_unchoose_drop_unchoose, wi_put_choose_unchoose, wi_drop_choose_unchoose, wi_part_choose_unchoose, wi_ahead_choose_unchoose, wi_cut_choose_unchoose, wi_choose_choose_unchoose, wi_unchoose_choose_unchoose, wi_put_put_drop, wi_drop_put_drop, wi_part_put_drop, wi_ahead_put_drop, wi_cut_put_drop, wi_choose_put_drop, wi_unchoose_put_drop, c37, e0, e1, h1, h2, h3, edS, optT, optE, hi]
      rfl
theorem made_ok (t : Stt) (e : Ed) (S : Sto) (g : Good t e) : Ev 10 38 [encT t, encE e] S (some (.ok (optT (edS t e)), S)) := by
  refine Ev.body (k := 9) (c := c38) (ρ := [.v (encT t), .v (encE e)]) rfl rfl rfl fun d hd => ?_
  have h1 := form_ok e S (by have := g.p; omega) d (by omega)
  have h2 := raw_ed_ok t e S g d hd
  simp [endU, evL_disp, exB, exS, evE, evEs, evO, evT, evP, evAnd, evOr, bindE, bindO, optO, pureO, nxS, optS, slotU, slotP, asB, asI, line, setTg, tup2, ownOf, appU, frzU, uIdx, seqOf, L2.atI, L2.ixN, isiU, uc_eq, uc_ne, uc_gt, uc_lt, uc_le, uc_ge, ul_tup, ul_lst, isNonU_non, isNonU_tup, isNonU_int, isNonU_enc, c38, h1, h2]
theorem isNonU_optT (o : Option Stt) : isNonU (optT o) = o.isNone := by cases o <;> rfl
theorem is_edit_ok (t : Stt) (e : Ed) (S : Sto) (g : Good t e) : Ev 11 39 [encT t, encE e] S (some (.ok (.bl (edS t e).isSome), S)) := by
  refine Ev.body (k := 10) (c := c39) (ρ := [.v (encT t), .v (encE e)]) rfl rfl rfl fun d hd => ?_
  have h1 := check_state_ok t S g.ok d (by omega)
  have h2 := made_ok t e S g d hd
  simp [endU, evL_disp, exB, exS, evE, evEs, evO, evT, evP, evAnd, evOr, bindE, bindO, optO, pureO, nxS, optS, slotU, slotP, asB, asI, line, setTg, tup2, ownOf, appU, frzU, uIdx, seqOf, L2.atI, L2.ixN, isiU, uc_eq, uc_ne, uc_gt, uc_lt, uc_le, uc_ge, ul_tup, ul_lst, isNonU_non, isNonU_tup, isNonU_int, isNonU_enc, c39, h1, h2, isNonU_optT]
theorem edited_ok (t : Stt) (e : Ed) (S : Sto) (g : Good t e) : Ev 11 40 [encT t, encE e] S (match edS t e with | none => some (.err "NoEdit", S) | some t' => some (.ok (encT t'), S)) := by
  refine Ev.body (k := 10) (c := c40) (ρ := [.v (encT t), .v (encE e), .nil]) rfl rfl rfl fun d hd => ?_
  have h1 := check_state_ok t S g.ok d (by omega)
  have h2 := made_ok t e S g d hd
  cases hi : edS t e with
  | none =>
    rw [hi] at h2
    simp [endU, evL_disp, exB, exS, evE, evEs, evO, evT, evP, evAnd, evOr, bindE, bindO, optO, pureO, nxS, optS, slotU, slotP, asB, asI, line, setTg, tup2, ownOf, appU, frzU, uIdx, seqOf, L2.atI, L2.ixN, isiU, uc_eq, uc_ne, uc_gt, uc_lt, uc_le, uc_ge, ul_tup, ul_lst, isNonU_non, isNonU_tup, isNonU_int, isNonU_enc, c40, h1, h2, optT]
  | some t' =>
    rw [hi] at h2
    have hn := isNonU_T t'
    simp [endU, evL_disp, exB, exS, evE, evEs, evO, evT, evP, evAnd, evOr, bindE, bindO, optO, pureO, nxS, optS, slotU, slotP, asB, asI, line, setTg, tup2, ownOf, appU, frzU, uIdx, seqOf, L2.atI, L2.ixN, isiU, uc_eq, uc_ne, uc_gt, uc_lt, uc_le, uc_ge, ul_tup, ul_lst, isNonU_non, isNonU_tup, isNonU_int, isNonU_enc, c40, h1, h2, optT, hn]
end Pl
end
section
set_option maxRecDepth 100000
set_option maxHeartbeats 4000000
namespace Pl
open PySem Wy Core49
def backS (t : Stt) : Ed → Ed
  | .put n _ => (match t.s.get n with | none => .drop n | some x => .put n x)
  | .drop n => (match t.s.get n with | none => .drop n | some x => .put n x)
  | .dropz => .dropz
  | .choose m _ => (match t.c.get m with | none => .unch m | some j => .choose m j)
  | .unch m => (match t.c.get m with | none => .unch m | some j => .choose m j)
  | .part n p _ => (match (t.s.get n).bind fun h => part h p with | some x => .part n p x | none => .dropz)
  | .ahead n p _ => .cut n p
  | .cut n p => (match (t.s.get n).bind fun h => part h p with | some (.lis (.cons x _)) => .ahead n p x | _ => .dropz)
theorem name_back5 (s : V5) (n : Nm) (S : Sto) : Ev 2 41 [encV s, encN n, .tup [.str "put", .str "drop"]] S (some (.ok (encE (match s.get n with | none => .drop n | some x => .put n x)), S)) := by
  refine Ev.body (k := 1) (c := c41) (ρ := [.v (encV s), .v (encN n), .v (.tup [.str "put", .str "drop"]), .nil]) rfl rfl rfl fun d hd => ?_
  have h1 := under_ok s n S d (by omega)
  cases hg : s.get n with
  | none =>
    rw [hg] at h1
    simp [endU, evL_disp, exB, exS, evE, evEs, evO, evT, evP, evAnd, evOr, bindE, bindO, optO, pureO, nxS, optS, slotU, slotP, asB, asI, line, setTg, tup2, ownOf, appU, frzU, uIdx, seqOf, L2.atI, L2.ixN, isiU, uc_eq, uc_ne, uc_gt, uc_lt, uc_le, uc_ge, ul_tup, ul_lst, isNonU_non, isNonU_tup, isNonU_int, isNonU_enc, c41, h1, optE, encE]
  | some x =>
    rw [hg] at h1
    simp [endU, evL_disp, exB, exS, evE, evEs, evO, evT, evP, evAnd, evOr, bindE, bindO, optO, pureO, nxS, optS, slotU, slotP, asB, asI, line, setTg, tup2, ownOf, appU, frzU, uIdx, seqOf, L2.atI, L2.ixN, isiU, uc_eq, uc_ne, uc_gt, uc_lt, uc_le, uc_ge, ul_tup, ul_lst, isNonU_non, isNonU_tup, isNonU_int, isNonU_enc, c41, h1, optE, encE]
theorem name_back2 (s : S2) (n : Cm) (S : Sto) : Ev 2 41 [enc2 s, encM n, .tup [.str "choose", .str "unchoose"]] S (some (.ok (encE (match s.get n with | none => .unch n | some x => .choose n x)), S)) := by
  refine Ev.body (k := 1) (c := c41) (ρ := [.v (enc2 s), .v (encM n), .v (.tup [.str "choose", .str "unchoose"]), .nil]) rfl rfl rfl fun d hd => ?_
  have h1 := under2 s n S d (by omega)
  cases hg : s.get n with
  | none =>
    rw [hg] at h1
    simp [endU, evL_disp, exB, exS, evE, evEs, evO, evT, evP, evAnd, evOr, bindE, bindO, optO, pureO, nxS, optS, slotU, slotP, asB, asI, line, setTg, tup2, ownOf, appU, frzU, uIdx, seqOf, L2.atI, L2.ixN, isiU, uc_eq, uc_ne, uc_gt, uc_lt, uc_le, uc_ge, ul_tup, ul_lst, isNonU_non, isNonU_tup, isNonU_int, isNonU_enc, c41, h1, optN, encE]
  | some x =>
    rw [hg] at h1
    simp [endU, evL_disp, exB, exS, evE, evEs, evO, evT, evP, evAnd, evOr, bindE, bindO, optO, pureO, nxS, optS, slotU, slotP, asB, asI, line, setTg, tup2, ownOf, appU, frzU, uIdx, seqOf, L2.atI, L2.ixN, isiU, uc_eq, uc_ne, uc_gt, uc_lt, uc_le, uc_ge, ul_tup, ul_lst, isNonU_non, isNonU_tup, isNonU_int, isNonU_enc, c41, h1, optN, encE]
theorem slc03 (a b c e : U) : uSlc (.tup [a, b, c, e]) none (some 3) = some (.tup [a, b, c]) := by kernel_rfl
theorem slc13a (a b c e : U) : uSlc (.tup [a, b, c, e]) (some 1) (some 3) = some (.tup [b, c]) := by kernel_rfl
theorem slc13b (a b c : U) : uSlc (.tup [a, b, c]) (some 1) (some 3) = some (.tup [b, c]) := by kernel_rfl
theorem add31 (a b c e : U) : uBin .add (.tup [a, b, c]) (.tup [e]) = some (.tup [a, b, c, e]) := by kernel_rfl
theorem add12 (a b c : U) : uBin .add (.tup [a]) (.tup [b, c]) = some (.tup [a, b, c]) := by kernel_rfl
theorem newV_part {s : V5} {n : Nm} {p : List St} {v w : Va} (h : newV s (.part n p v) = some w) : ∃ here c, s.get n = some here ∧ part here p = some c ∧ wth here p v = some w := by
  simp only [newV] at h
  cases hg : s.get n with
  | none => rw [hg] at h; cases h
  | some here =>
    rw [hg] at h
    have h : wth here p v = some w := h
    cases hp : part here p with
    | none => rw [wth_of_part hp] at h; cases h
    | some c => exact ⟨here, c, rfl, hp, h⟩
theorem newV_ahead {s : V5} {n : Nm} {p : List St} {v w : Va} (h : newV s (.ahead n p v) = some w) : ∃ here vs, s.get n = some here ∧ part here p = some (.lis vs) ∧ wth here p (.lis (.cons v vs)) = some w := by
  simp only [newV] at h
  cases hg : s.get n with
  | none => rw [hg] at h; cases h
  | some here =>
    rw [hg] at h
    simp only [Option.bind_some] at h
    split at h
    · rename_i vs hp; exact ⟨here, vs, rfl, hp, h⟩
    · cases h
theorem newV_cut {s : V5} {n : Nm} {p : List St} {w : Va} (h : newV s (.cut n p) = some w) : ∃ here x vs, s.get n = some here ∧ part here p = some (.lis (.cons x vs)) ∧ wth here p (.lis vs) = some w := by
  simp only [newV] at h
  cases hg : s.get n with
  | none => rw [hg] at h; cases h
  | some here =>
    rw [hg] at h
    simp only [Option.bind_some] at h
    split at h
    · rename_i x vs hp; exact ⟨here, x, vs, rfl, hp, h⟩
    · cases h
theorem edit_back_ok (t : Stt) (e : Ed) (S : Sto) (g : Good t e) : Ev 12 42 [encT t, encE e] S (match edS t e with | none => some (.err "NoEdit", S) | some _ => some (.ok (encE (backS t e)), S)) := by
  refine Ev.body (k := 11) (c := c42) (ρ := [.v (encT t), .v (encE e), .nil]) rfl rfl rfl fun d hd => ?_
  have h1 := check_state_ok t S g.ok d (by omega)
  have h2 := made_ok t e S g d (by omega)
  have e0 : encT t = .tup [encV t.s, enc2 t.c] := rfl
  cases hi : edS t e with
  | none =>
    rw [hi] at h2
    simp [endU, evL_disp, exB, exS, evE, evEs, evO, evT, evP, evAnd, evOr, bindE, bindO, optO, pureO, nxS, optS, slotU, slotP, asB, asI, line, setTg, tup2, ownOf, appU, frzU, uIdx, seqOf, L2.atI, L2.ixN, isiU, uc_eq, uc_ne, uc_gt, uc_lt, uc_le, uc_ge, ul_tup, ul_lst, isNonU_non, isNonU_tup, isNonU_int, isNonU_enc, c42, h1, h2, optT]
  | some t' =>
    rw [hi] at h2
    have hn := isNonU_T t'
    have i0 : uIdx S (encT t) (.int 0) = some (encV t.s) := rfl
    have i1 : uIdx S (encT t) (.int 1) = some (enc2 t.c) := rfl
    cases e with
    | put n v =>
      have h3 := name_back5 t.s n S d (by omega)
      have j0 : uIdx S (encE (.put n v)) (.int 0) = some (.str "put") := rfl
      have j1 : uIdx S (encE (.put n v)) (.int 1) = some (encN n) := rfl
      simp [endU, exB, exS, evE, evEs, bindE, bindO, optO, pureO, nxS, slotU, asB, line, wq_put_put, wq_put_drop, wq_put_part, wq_put_ahead, wq_put_cut, wq_put_choose, wq_put_unchoose, wq_drop_put, wq_drop_drop, wq_drop_part, wq_drop_ahead, wq_drop_cut, wq_drop_choose, wq_drop_unchoose, wq_part_put, wq_part_drop, wq_part_part, wq_part_ahead, wq_part_cut, wq_part_choose, wq_part_unchoose, wq_ahead_put, wq_ahead_drop, wq_ahead_part, wq_ahead_ahead, wq_ahead_cut, wq_ahead_choose, wq_ahead_unchoose, wq_cut_put, wq_cut_drop, wq_cut_part, wq_cut_ahead, wq_cut_cut, wq_cut_choose, wq_cut_unchoose, wq_choose_put, wq_choose_drop, wq_choose_part, wq_choose_ahead, wq_choose_cut, wq_choose_choose, wq_choose_unchoose, wq_unchoose_put, wq_unchoose_drop, wq_unchoose_part, wq_unchoose_ahead, wq_unchoose_cut, wq_unchoose_choose, wq_unchoose_unchoose, wi_put_drop_unchoose, wi_drop_drop_unchoose, wi_part_drop_unchoose, wi_ahead_drop_unchoose, wi_cut_drop_unchoose, wi_choose_drop_unchoose, wi_unchoose_drop_unchoose, wi_put_choose_unchoose, wi_drop_choose_unchoose, wi_part_choose_unchoose, wi_ahead_choose_unchoose, wi_cut_choose_unchoose, wi_choose_choose_unchoose, wi_unchoose_choose_unchoose, wi_put_put_drop, wi_drop_put_drop, wi_part_put_drop, wi_ahead_put_drop, wi_cut_put_drop, wi_choose_put_drop, wi_unchoose_put_drop, c42, h1, h2, h3, optT, hn, i0, i1, j0, j1, backS]
    | drop n =>
      have h3 := name_back5 t.s n S d (by omega)
      have j0 : uIdx S (encE (.drop n)) (.int 0) = some (.str "drop") := rfl
      have j1 : uIdx S (encE (.drop n)) (.int 1) = some (encN n) := rfl
      simp [endU, exB, exS, evE, evEs, bindE, bindO, optO, pureO, nxS, slotU, asB, line, wq_put_put, wq_put_drop, wq_put_part, wq_put_ahead, wq_put_cut, wq_put_choose, wq_put_unchoose, wq_drop_put, wq_drop_drop, wq_drop_part, wq_drop_ahead, wq_drop_cut, wq_drop_choose, wq_drop_unchoose, wq_part_put, wq_part_drop, wq_part_part, wq_part_ahead, wq_part_cut, wq_part_choose, wq_part_unchoose, wq_ahead_put, wq_ahead_drop, wq_ahead_part, wq_ahead_ahead, wq_ahead_cut, wq_ahead_choose, wq_ahead_unchoose, wq_cut_put, wq_cut_drop, wq_cut_part, wq_cut_ahead, wq_cut_cut, wq_cut_choose, wq_cut_unchoose, wq_choose_put, wq_choose_drop, wq_choose_part, wq_choose_ahead, wq_choose_cut, wq_choose_choose, wq_choose_unchoose, wq_unchoose_put, wq_unchoose_drop, wq_unchoose_part, wq_unchoose_ahead, wq_unchoose_cut, wq_unchoose_choose, wq_unchoose_unchoose, wi_put_drop_unchoose, wi_drop_drop_unchoose, wi_part_drop_unchoose, wi_ahead_drop_unchoose, wi_cut_drop_unchoose, wi_choose_drop_unchoose, wi_unchoose_drop_unchoose, wi_put_choose_unchoose, wi_drop_choose_unchoose, wi_part_choose_unchoose, wi_ahead_choose_unchoose, wi_cut_choose_unchoose, wi_choose_choose_unchoose, wi_unchoose_choose_unchoose, wi_put_put_drop, wi_drop_put_drop, wi_part_put_drop, wi_ahead_put_drop, wi_cut_put_drop, wi_choose_put_drop, wi_unchoose_put_drop, c42, h1, h2, h3, optT, hn, i0, i1, j0, j1, backS]
    | dropz => cases hi
    | choose n v =>
      have h3 := name_back2 t.c n S d (by omega)
      have j0 : uIdx S (encE (.choose n v)) (.int 0) = some (.str "choose") := rfl
      have j1 : uIdx S (encE (.choose n v)) (.int 1) = some (encM n) := rfl
      simp [endU, exB, exS, evE, evEs, bindE, bindO, optO, pureO, nxS, slotU, asB, line, wq_put_put, wq_put_drop, wq_put_part, wq_put_ahead, wq_put_cut, wq_put_choose, wq_put_unchoose, wq_drop_put, wq_drop_drop, wq_drop_part, wq_drop_ahead, wq_drop_cut, wq_drop_choose, wq_drop_unchoose, wq_part_put, wq_part_drop, wq_part_part, wq_part_ahead, wq_part_cut, wq_part_choose, wq_part_unchoose, wq_ahead_put, wq_ahead_drop, wq_ahead_part, wq_ahead_ahead, wq_ahead_cut, wq_ahead_choose, wq_ahead_unchoose, wq_cut_put, wq_cut_drop, wq_cut_part, wq_cut_ahead, wq_cut_cut, wq_cut_choose, wq_cut_unchoose, wq_choose_put, wq_choose_drop, wq_choose_part, wq_choose_ahead, wq_choose_cut, wq_choose_choose, wq_choose_unchoose, wq_unchoose_put, wq_unchoose_drop, wq_unchoose_part, wq_unchoose_ahead, wq_unchoose_cut, wq_unchoose_choose, wq_unchoose_unchoose, wi_put_drop_unchoose, wi_drop_drop_unchoose, wi_part_drop_unchoose, wi_ahead_drop_unchoose, wi_cut_drop_unchoose, wi_choose_drop_unchoose, wi_unchoose_drop_unchoose, wi_put_choose_unchoose, wi_drop_choose_unchoose, wi_part_choose_unchoose, wi_ahead_choose_unchoose, wi_cut_choose_unchoose, wi_choose_choose_unchoose, wi_unchoose_choose_unchoose, wi_put_put_drop, wi_drop_put_drop, wi_part_put_drop, wi_ahead_put_drop, wi_cut_put_drop, wi_choose_put_drop, wi_unchoose_put_drop, c42, h1, h2, h3, optT, hn, i0, i1, j0, j1, backS]
    | unch n =>
      have h3 := name_back2 t.c n S d (by omega)
      have j0 : uIdx S (encE (.unch n)) (.int 0) = some (.str "unchoose") := rfl
      have j1 : uIdx S (encE (.unch n)) (.int 1) = some (encM n) := rfl
      simp [endU, exB, exS, evE, evEs, bindE, bindO, optO, pureO, nxS, slotU, asB, line, wq_put_put, wq_put_drop, wq_put_part, wq_put_ahead, wq_put_cut, wq_put_choose, wq_put_unchoose, wq_drop_put, wq_drop_drop, wq_drop_part, wq_drop_ahead, wq_drop_cut, wq_drop_choose, wq_drop_unchoose, wq_part_put, wq_part_drop, wq_part_part, wq_part_ahead, wq_part_cut, wq_part_choose, wq_part_unchoose, wq_ahead_put, wq_ahead_drop, wq_ahead_part, wq_ahead_ahead, wq_ahead_cut, wq_ahead_choose, wq_ahead_unchoose, wq_cut_put, wq_cut_drop, wq_cut_part, wq_cut_ahead, wq_cut_cut, wq_cut_choose, wq_cut_unchoose, wq_choose_put, wq_choose_drop, wq_choose_part, wq_choose_ahead, wq_choose_cut, wq_choose_choose, wq_choose_unchoose, wq_unchoose_put, wq_unchoose_drop, wq_unchoose_part, wq_unchoose_ahead, wq_unchoose_cut, wq_unchoose_choose, wq_unchoose_unchoose, wi_put_drop_unchoose, wi_drop_drop_unchoose, wi_part_drop_unchoose, wi_ahead_drop_unchoose, wi_cut_drop_unchoose, wi_choose_drop_unchoose, wi_unchoose_drop_unchoose, wi_put_choose_unchoose, wi_drop_choose_unchoose, wi_part_choose_unchoose, wi_ahead_choose_unchoose, wi_cut_choose_unchoose, wi_choose_choose_unchoose, wi_unchoose_choose_unchoose, wi_put_put_drop, wi_drop_put_drop, wi_part_put_drop, wi_ahead_put_drop, wi_cut_put_drop, wi_choose_put_drop, wi_unchoose_put_drop, c42, h1, h2, h3, optT, hn, i0, i1, j0, j1, backS]
    | part n p v =>
      obtain ⟨w, hw⟩ : ∃ w, newV t.s (.part n p v) = some w := by
        simp only [edS] at hi
        cases h : newV t.s (.part n p v) with
        | none => rw [h] at hi; cases hi
        | some w => exact ⟨w, rfl⟩
      obtain ⟨here, c, q1, q2, q3⟩ := newV_part hw
      have h3 := under_ok t.s n S d (by omega)
      have h4 := (Ev.of fun d => raw_part_ok d S here p) d (by omega)
      rw [q1] at h3
      rw [q2] at h4
      have j0 : uIdx S (encE (.part n p v)) (.int 0) = some (.str "part") := rfl
      have j1 : uIdx S (encE (.part n p v)) (.int 1) = some (encN n) := rfl
      have j2 : uIdx S (encE (.part n p v)) (.int 2) = some (encP p) := rfl
      have j3 : uSlc (encE (.part n p v)) none (some 3) = some (.tup [.str "part", encN n, encP p]) := slc03 _ _ _ _
      have hb : backS t (.part n p v) = .part n p c := by simp [backS, q1, q2]
      rw [hb]
      simp [endU, exB, exS, evE, evEs, evO, bindE, bindO, optO, pureO, nxS, slotU, asB, asI, uc_eq, line, wq_put_put, wq_put_drop, wq_put_part, wq_put_ahead, wq_put_cut, wq_put_choose, wq_put_unchoose, wq_drop_put, wq_drop_drop, wq_drop_part, wq_drop_ahead, wq_drop_cut, wq_drop_choose, wq_drop_unchoose, wq_part_put, wq_part_drop, wq_part_part, wq_part_ahead, wq_part_cut, wq_part_choose, wq_part_unchoose, wq_ahead_put, wq_ahead_drop, wq_ahead_part, wq_ahead_ahead, wq_ahead_cut, wq_ahead_choose, wq_ahead_unchoose, wq_cut_put, wq_cut_drop, wq_cut_part, wq_cut_ahead, wq_cut_cut, wq_cut_choose, wq_cut_unchoose, wq_choose_put, wq_choose_drop, wq_choose_part, wq_choose_ahead, wq_choose_cut, wq_choose_choose, wq_choose_unchoose, wq_unchoose_put, wq_unchoose_drop, wq_unchoose_part, wq_unchoose_ahead, wq_unchoose_cut, wq_unchoose_choose, wq_unchoose_unchoose, wi_put_drop_unchoose, wi_drop_drop_unchoose, wi_part_drop_unchoose, wi_ahead_drop_unchoose, wi_cut_drop_unchoose, wi_choose_drop_unchoose, wi_unchoose_drop_unchoose, wi_put_choose_unchoose, wi_drop_choose_unchoose, wi_part_choose_unchoose, wi_ahead_choose_unchoose, wi_cut_choose_unchoose, wi_choose_choose_unchoose, wi_unchoose_choose_unchoose, wi_put_put_drop, wi_drop_put_drop, wi_part_put_drop, wi_ahead_put_drop, wi_cut_put_drop, wi_choose_put_drop, wi_unchoose_put_drop, c42, h1, h2, h3, h4, optT, optE, hn, i0, i1, j0, j1, j2, j3, add31]
      rfl
    | ahead n p v =>
      obtain ⟨w, hw⟩ : ∃ w, newV t.s (.ahead n p v) = some w := by
        simp only [edS] at hi
        cases h : newV t.s (.ahead n p v) with
        | none => rw [h] at hi; cases hi
        | some w => exact ⟨w, rfl⟩
      obtain ⟨here, c, q1, q2, q3⟩ := newV_ahead hw
      have h3 := under_ok t.s n S d (by omega)
      rw [q1] at h3
      have j0 : uIdx S (encE (.ahead n p v)) (.int 0) = some (.str "ahead") := rfl
      have j1 : uIdx S (encE (.ahead n p v)) (.int 1) = some (encN n) := rfl
      have j2 : uIdx S (encE (.ahead n p v)) (.int 2) = some (encP p) := rfl
      have j3 : uSlc (encE (.ahead n p v)) (some 1) (some 3) = some (.tup [encN n, encP p]) := slc13a _ _ _ _
      simp [endU, exB, exS, evE, evEs, evO, bindE, bindO, optO, pureO, nxS, slotU, asB, asI, uc_eq, line, wq_put_put, wq_put_drop, wq_put_part, wq_put_ahead, wq_put_cut, wq_put_choose, wq_put_unchoose, wq_drop_put, wq_drop_drop, wq_drop_part, wq_drop_ahead, wq_drop_cut, wq_drop_choose, wq_drop_unchoose, wq_part_put, wq_part_drop, wq_part_part, wq_part_ahead, wq_part_cut, wq_part_choose, wq_part_unchoose, wq_ahead_put, wq_ahead_drop, wq_ahead_part, wq_ahead_ahead, wq_ahead_cut, wq_ahead_choose, wq_ahead_unchoose, wq_cut_put, wq_cut_drop, wq_cut_part, wq_cut_ahead, wq_cut_cut, wq_cut_choose, wq_cut_unchoose, wq_choose_put, wq_choose_drop, wq_choose_part, wq_choose_ahead, wq_choose_cut, wq_choose_choose, wq_choose_unchoose, wq_unchoose_put, wq_unchoose_drop, wq_unchoose_part, wq_unchoose_ahead, wq_unchoose_cut, wq_unchoose_choose, wq_unchoose_unchoose, wi_put_drop_unchoose, wi_drop_drop_unchoose, wi_part_drop_unchoose, wi_ahead_drop_unchoose, wi_cut_drop_unchoose, wi_choose_drop_unchoose, wi_unchoose_drop_unchoose, wi_put_choose_unchoose, wi_drop_choose_unchoose, wi_part_choose_unchoose, wi_ahead_choose_unchoose, wi_cut_choose_unchoose, wi_choose_choose_unchoose, wi_unchoose_choose_unchoose, wi_put_put_drop, wi_drop_put_drop, wi_part_put_drop, wi_ahead_put_drop, wi_cut_put_drop, wi_choose_put_drop, wi_unchoose_put_drop, c42, h1, h2, h3, optT, optE, hn, i0, i1, j0, j1, j2, j3, add12, backS]
      rfl
    | cut n p =>
      obtain ⟨w, hw⟩ : ∃ w, newV t.s (.cut n p) = some w := by
        simp only [edS] at hi
        cases h : newV t.s (.cut n p) with
        | none => rw [h] at hi; cases hi
        | some w => exact ⟨w, rfl⟩
      obtain ⟨here, x, vs, q1, q2, q3⟩ := newV_cut hw
      have h3 := under_ok t.s n S d (by omega)
      have h4 := list_at_ok here p S d (by omega)
      rw [q1] at h3
      rw [q2] at h4
      have j0 : uIdx S (encE (.cut n p)) (.int 0) = some (.str "cut") := rfl
      have j1 : uIdx S (encE (.cut n p)) (.int 1) = some (encN n) := rfl
      have j2 : uIdx S (encE (.cut n p)) (.int 2) = some (encP p) := rfl
      have j3 : uSlc (encE (.cut n p)) (some 1) (some 3) = some (.tup [encN n, encP p]) := slc13b _ _ _
      have j4 : uIdx S (.tup (encs (.cons x vs))) (.int 0) = some (enc x) := by simp [encs, uIdx, seqOf, L2.atI, L2.ixN]
      have hb : backS t (.cut n p) = .ahead n p x := by simp [backS, q1, q2]
      rw [hb]
      simp [endU, exB, exS, evE, evEs, evO, bindE, bindO, optO, pureO, nxS, slotU, asB, asI, uc_eq, line, wq_put_put, wq_put_drop, wq_put_part, wq_put_ahead, wq_put_cut, wq_put_choose, wq_put_unchoose, wq_drop_put, wq_drop_drop, wq_drop_part, wq_drop_ahead, wq_drop_cut, wq_drop_choose, wq_drop_unchoose, wq_part_put, wq_part_drop, wq_part_part, wq_part_ahead, wq_part_cut, wq_part_choose, wq_part_unchoose, wq_ahead_put, wq_ahead_drop, wq_ahead_part, wq_ahead_ahead, wq_ahead_cut, wq_ahead_choose, wq_ahead_unchoose, wq_cut_put, wq_cut_drop, wq_cut_part, wq_cut_ahead, wq_cut_cut, wq_cut_choose, wq_cut_unchoose, wq_choose_put, wq_choose_drop, wq_choose_part, wq_choose_ahead, wq_choose_cut, wq_choose_choose, wq_choose_unchoose, wq_unchoose_put, wq_unchoose_drop, wq_unchoose_part, wq_unchoose_ahead, wq_unchoose_cut, wq_unchoose_choose, wq_unchoose_unchoose, wi_put_drop_unchoose, wi_drop_drop_unchoose, wi_part_drop_unchoose, wi_ahead_drop_unchoose, wi_cut_drop_unchoose, wi_choose_drop_unchoose, wi_unchoose_drop_unchoose, wi_put_choose_unchoose, wi_drop_choose_unchoose, wi_part_choose_unchoose, wi_ahead_choose_unchoose, wi_cut_choose_unchoose, wi_choose_choose_unchoose, wi_unchoose_choose_unchoose, wi_put_put_drop, wi_drop_put_drop, wi_part_put_drop, wi_ahead_put_drop, wi_cut_put_drop, wi_choose_put_drop, wi_unchoose_put_drop, c42, h1, h2, h3, h4, optT, optE, lisOf, hn, i0, i1, j0, j1, j2, j3, j4, add12, add31]
      rfl
end Pl
end
section
set_option maxRecDepth 100000
set_option maxHeartbeats 4000000
namespace Pl
open PySem Wy Core49
theorem law_with_e (p : List St) (v o : Va) (S : Sto) (hp : part v p ≠ none) (hl : p.length ≤ 40) (hn : nod v + nod o + 1 ≤ 1000) : Ev 42 56 [enc v, encP p, enc o] S (some (.ok (optE (wth v p o)), S)) := fun d hd => by
  obtain ⟨e, rfl⟩ : ∃ e, d = e + p.length + 2 := ⟨d - p.length - 2, by omega⟩
  exact law_with_ok p v o e S hp hn
theorem lx_list (v : Va) (S : Sto) (hv : isLf v = false) : ∃ w, uIdx S (enc v) (.int 0) = some (.str w) ∧ uEq (.str w) (.str "list") = some (isLis v) ∧ isiU .tuple (enc v) = true := by
  cases v with
  | lf l => cases hv
  | lis vs => exact ⟨"list", rfl, by kernel_rfl, rfl⟩
  | rc1 n => exact ⟨"rec", rfl, by kernel_rfl, rfl⟩
  | rc2 m n => exact ⟨"rec", rfl, by kernel_rfl, rfl⟩
  | cas l m => exact ⟨"case", rfl, by kernel_rfl, rfl⟩
theorem lx_leaf (v : Va) (hv : isLf v = true) : isiU .tuple (enc v) = false := by
  cases v with
  | lf l => cases l <;> rfl
  | _ => cases hv
theorem ix0 (S : Sto) (a : U) (r : List U) : uIdx S (.tup (a :: r)) (.int 0) = some a := by simp [uIdx, seqOf, L2.atI, L2.ixN]
theorem ix1 (S : Sto) (a b : U) (r : List U) : uIdx S (.tup (a :: b :: r)) (.int 1) = some b := by simp [uIdx, seqOf, L2.atI, L2.ixN]; rw [if_pos (by omega)]; rfl
theorem ix2 (S : Sto) (a b c : U) (r : List U) : uIdx S (.tup (a :: b :: c :: r)) (.int 2) = some c := by simp [uIdx, seqOf, L2.atI, L2.ixN]; rw [if_pos (by omega)]; rfl
theorem ix3 (S : Sto) (a b c e : U) (r : List U) : uIdx S (.tup (a :: b :: c :: e :: r)) (.int 3) = some e := by simp [uIdx, seqOf, L2.atI, L2.ixN]; rw [if_pos (by omega)]; rfl
theorem ixm4 (S : Sto) (a b c e : U) : uIdx S (.tup [a, b, c, e]) (.int (-1)) = some e := by kernel_rfl
theorem ixm3 (S : Sto) (a b c : U) : uIdx S (.tup [a, b, c]) (.int (-1)) = some c := by kernel_rfl
theorem law_edited_ok (t : Stt) (e : Ed) (S : Sto) (g : Good t e) : Ev 43 59 [encT t, encE e] S (some (.ok (optT (edS t e)), S)) := by
  refine Ev.body (k := 42) (c := c59) (ρ := [.v (encT t), .v (encE e), .nil, .nil, .nil, .nil, .nil, .nil, .nil, .nil, .nil]) rfl rfl rfl fun d hd => ?_
  have e0 : encT t = .tup [encV t.s, enc2 t.c] := rfl
  cases e with
  | put n v =>
    have h1 := found_ok t.s n S d (by omega)
    have h2 := law_set_some t.s n v S d (by omega)
    simp [endU, evL_disp, exB, exS, evE, evEs, evO, evT, evP, evAnd, evOr, bindE, bindO, optO, pureO, nxS, optS, slotU, slotP, asB, asI, line, setTg, tup2, ownOf, appU, frzU, uIdx, seqOf, L2.atI, L2.ixN, isiU, uc_eq, uc_ne, uc_gt, uc_lt, uc_le, uc_ge, ul_tup, ul_lst, isNonU_non, isNonU_tup, isNonU_int, isNonU_enc, wq_put_put, wq_put_drop, wq_put_part, wq_put_ahead, wq_put_cut, wq_put_choose, wq_put_unchoose, wq_drop_put, wq_drop_drop, wq_drop_part, wq_drop_ahead, wq_drop_cut, wq_drop_choose, wq_drop_unchoose, wq_part_put, wq_part_drop, wq_part_part, wq_part_ahead, wq_part_cut, wq_part_choose, wq_part_unchoose, wq_ahead_put, wq_ahead_drop, wq_ahead_part, wq_ahead_ahead, wq_ahead_cut, wq_ahead_choose, wq_ahead_unchoose, wq_cut_put, wq_cut_drop, wq_cut_part, wq_cut_ahead, wq_cut_cut, wq_cut_choose, wq_cut_unchoose, wq_choose_put, wq_choose_drop, wq_choose_part, wq_choose_ahead, wq_choose_cut, wq_choose_choose, wq_choose_unchoose, wq_unchoose_put, wq_unchoose_drop, wq_unchoose_part, wq_unchoose_ahead, wq_unchoose_cut, wq_unchoose_choose, wq_unchoose_unchoose, wi_put_drop_unchoose, wi_drop_drop_unchoose, wi_part_drop_unchoose, wi_ahead_drop_unchoose, wi_cut_drop_unchoose, wi_choose_drop_unchoose, wi_unchoose_drop_unchoose, wi_put_choose_unchoose, wi_drop_choose_unchoose, wi_part_choose_unchoose, wi_ahead_choose_unchoose, wi_cut_choose_unchoose, wi_choose_choose_unchoose, wi_unchoose_choose_unchoose, wi_put_put_drop, wi_drop_put_drop, wi_part_put_drop, wi_ahead_put_drop, wi_cut_put_drop, wi_choose_put_drop, wi_unchoose_put_drop, c59, e0, encE, h1, h2, edS, optT]
    rfl
  | drop n =>
    have h1 := found_ok t.s n S d (by omega)
    have h2 := law_set_none t.s n S d (by omega)
    cases hg : t.s.get n with
    | none =>
      rw [hg] at h1
      simp [endU, evL_disp, exB, exS, evE, evEs, evO, evT, evP, evAnd, evOr, bindE, bindO, optO, pureO, nxS, optS, slotU, slotP, asB, asI, line, setTg, tup2, ownOf, appU, frzU, uIdx, seqOf, L2.atI, L2.ixN, isiU, uc_eq, uc_ne, uc_gt, uc_lt, uc_le, uc_ge, ul_tup, ul_lst, isNonU_non, isNonU_tup, isNonU_int, isNonU_enc, wq_put_put, wq_put_drop, wq_put_part, wq_put_ahead, wq_put_cut, wq_put_choose, wq_put_unchoose, wq_drop_put, wq_drop_drop, wq_drop_part, wq_drop_ahead, wq_drop_cut, wq_drop_choose, wq_drop_unchoose, wq_part_put, wq_part_drop, wq_part_part, wq_part_ahead, wq_part_cut, wq_part_choose, wq_part_unchoose, wq_ahead_put, wq_ahead_drop, wq_ahead_part, wq_ahead_ahead, wq_ahead_cut, wq_ahead_choose, wq_ahead_unchoose, wq_cut_put, wq_cut_drop, wq_cut_part, wq_cut_ahead, wq_cut_cut, wq_cut_choose, wq_cut_unchoose, wq_choose_put, wq_choose_drop, wq_choose_part, wq_choose_ahead, wq_choose_cut, wq_choose_choose, wq_choose_unchoose, wq_unchoose_put, wq_unchoose_drop, wq_unchoose_part, wq_unchoose_ahead, wq_unchoose_cut, wq_unchoose_choose, wq_unchoose_unchoose, wi_put_drop_unchoose, wi_drop_drop_unchoose, wi_part_drop_unchoose, wi_ahead_drop_unchoose, wi_cut_drop_unchoose, wi_choose_drop_unchoose, wi_unchoose_drop_unchoose, wi_put_choose_unchoose, wi_drop_choose_unchoose, wi_part_choose_unchoose, wi_ahead_choose_unchoose, wi_cut_choose_unchoose, wi_choose_choose_unchoose, wi_unchoose_choose_unchoose, wi_put_put_drop, wi_drop_put_drop, wi_part_put_drop, wi_ahead_put_drop, wi_cut_put_drop, wi_choose_put_drop, wi_unchoose_put_drop, c59, e0, encE, h1, h2, edS, optT, optE, hg]
    | some x =>
      rw [hg] at h1
      simp [endU, evL_disp, exB, exS, evE, evEs, evO, evT, evP, evAnd, evOr, bindE, bindO, optO, pureO, nxS, optS, slotU, slotP, asB, asI, line, setTg, tup2, ownOf, appU, frzU, uIdx, seqOf, L2.atI, L2.ixN, isiU, uc_eq, uc_ne, uc_gt, uc_lt, uc_le, uc_ge, ul_tup, ul_lst, isNonU_non, isNonU_tup, isNonU_int, isNonU_enc, wq_put_put, wq_put_drop, wq_put_part, wq_put_ahead, wq_put_cut, wq_put_choose, wq_put_unchoose, wq_drop_put, wq_drop_drop, wq_drop_part, wq_drop_ahead, wq_drop_cut, wq_drop_choose, wq_drop_unchoose, wq_part_put, wq_part_drop, wq_part_part, wq_part_ahead, wq_part_cut, wq_part_choose, wq_part_unchoose, wq_ahead_put, wq_ahead_drop, wq_ahead_part, wq_ahead_ahead, wq_ahead_cut, wq_ahead_choose, wq_ahead_unchoose, wq_cut_put, wq_cut_drop, wq_cut_part, wq_cut_ahead, wq_cut_cut, wq_cut_choose, wq_cut_unchoose, wq_choose_put, wq_choose_drop, wq_choose_part, wq_choose_ahead, wq_choose_cut, wq_choose_choose, wq_choose_unchoose, wq_unchoose_put, wq_unchoose_drop, wq_unchoose_part, wq_unchoose_ahead, wq_unchoose_cut, wq_unchoose_choose, wq_unchoose_unchoose, wi_put_drop_unchoose, wi_drop_drop_unchoose, wi_part_drop_unchoose, wi_ahead_drop_unchoose, wi_cut_drop_unchoose, wi_choose_drop_unchoose, wi_unchoose_drop_unchoose, wi_put_choose_unchoose, wi_drop_choose_unchoose, wi_part_choose_unchoose, wi_ahead_choose_unchoose, wi_cut_choose_unchoose, wi_choose_choose_unchoose, wi_unchoose_choose_unchoose, wi_put_put_drop, wi_drop_put_drop, wi_part_put_drop, wi_ahead_put_drop, wi_cut_put_drop, wi_choose_put_drop, wi_unchoose_put_drop, c59, e0, encE, h1, h2, edS, optT, optE, hg]
      rfl
  | dropz =>
    have h1 := found5z t.s.u S d (by omega)
    have h1 : R d 57 [encV t.s, .str "z"] S = some (.ok .non, S) := h1
    simp [endU, evL_disp, exB, exS, evE, evEs, evO, evT, evP, evAnd, evOr, bindE, bindO, optO, pureO, nxS, optS, slotU, slotP, asB, asI, line, setTg, tup2, ownOf, appU, frzU, uIdx, seqOf, L2.atI, L2.ixN, isiU, uc_eq, uc_ne, uc_gt, uc_lt, uc_le, uc_ge, ul_tup, ul_lst, isNonU_non, isNonU_tup, isNonU_int, isNonU_enc, wq_put_put, wq_put_drop, wq_put_part, wq_put_ahead, wq_put_cut, wq_put_choose, wq_put_unchoose, wq_drop_put, wq_drop_drop, wq_drop_part, wq_drop_ahead, wq_drop_cut, wq_drop_choose, wq_drop_unchoose, wq_part_put, wq_part_drop, wq_part_part, wq_part_ahead, wq_part_cut, wq_part_choose, wq_part_unchoose, wq_ahead_put, wq_ahead_drop, wq_ahead_part, wq_ahead_ahead, wq_ahead_cut, wq_ahead_choose, wq_ahead_unchoose, wq_cut_put, wq_cut_drop, wq_cut_part, wq_cut_ahead, wq_cut_cut, wq_cut_choose, wq_cut_unchoose, wq_choose_put, wq_choose_drop, wq_choose_part, wq_choose_ahead, wq_choose_cut, wq_choose_choose, wq_choose_unchoose, wq_unchoose_put, wq_unchoose_drop, wq_unchoose_part, wq_unchoose_ahead, wq_unchoose_cut, wq_unchoose_choose, wq_unchoose_unchoose, wi_put_drop_unchoose, wi_drop_drop_unchoose, wi_part_drop_unchoose, wi_ahead_drop_unchoose, wi_cut_drop_unchoose, wi_choose_drop_unchoose, wi_unchoose_drop_unchoose, wi_put_choose_unchoose, wi_drop_choose_unchoose, wi_part_choose_unchoose, wi_ahead_choose_unchoose, wi_cut_choose_unchoose, wi_choose_choose_unchoose, wi_unchoose_choose_unchoose, wi_put_put_drop, wi_drop_put_drop, wi_part_put_drop, wi_ahead_put_drop, wi_cut_put_drop, wi_choose_put_drop, wi_unchoose_put_drop, c59, e0, encE, h1, edS, optT, optE]
  | choose m i =>
    have h1 := set2s t.c m i S d (by omega)
    simp [endU, evL_disp, exB, exS, evE, evEs, evO, evT, evP, evAnd, evOr, bindE, bindO, optO, pureO, nxS, optS, slotU, slotP, asB, asI, line, setTg, tup2, ownOf, appU, frzU, uIdx, seqOf, L2.atI, L2.ixN, isiU, uc_eq, uc_ne, uc_gt, uc_lt, uc_le, uc_ge, ul_tup, ul_lst, isNonU_non, isNonU_tup, isNonU_int, isNonU_enc, wq_put_put, wq_put_drop, wq_put_part, wq_put_ahead, wq_put_cut, wq_put_choose, wq_put_unchoose, wq_drop_put, wq_drop_drop, wq_drop_part, wq_drop_ahead, wq_drop_cut, wq_drop_choose, wq_drop_unchoose, wq_part_put, wq_part_drop, wq_part_part, wq_part_ahead, wq_part_cut, wq_part_choose, wq_part_unchoose, wq_ahead_put, wq_ahead_drop, wq_ahead_part, wq_ahead_ahead, wq_ahead_cut, wq_ahead_choose, wq_ahead_unchoose, wq_cut_put, wq_cut_drop, wq_cut_part, wq_cut_ahead, wq_cut_cut, wq_cut_choose, wq_cut_unchoose, wq_choose_put, wq_choose_drop, wq_choose_part, wq_choose_ahead, wq_choose_cut, wq_choose_choose, wq_choose_unchoose, wq_unchoose_put, wq_unchoose_drop, wq_unchoose_part, wq_unchoose_ahead, wq_unchoose_cut, wq_unchoose_choose, wq_unchoose_unchoose, wi_put_drop_unchoose, wi_drop_drop_unchoose, wi_part_drop_unchoose, wi_ahead_drop_unchoose, wi_cut_drop_unchoose, wi_choose_drop_unchoose, wi_unchoose_drop_unchoose, wi_put_choose_unchoose, wi_drop_choose_unchoose, wi_part_choose_unchoose, wi_ahead_choose_unchoose, wi_cut_choose_unchoose, wi_choose_choose_unchoose, wi_unchoose_choose_unchoose, wi_put_put_drop, wi_drop_put_drop, wi_part_put_drop, wi_ahead_put_drop, wi_cut_put_drop, wi_choose_put_drop, wi_unchoose_put_drop, c59, e0, encE, h1, edS, optT]
    rfl
  | unch m =>
    have h1 := found2 t.c m S d (by omega)
    have h2 := set2n t.c m S d (by omega)
    cases hg : t.c.get m with
    | none =>
      rw [hg] at h1
      simp [endU, evL_disp, exB, exS, evE, evEs, evO, evT, evP, evAnd, evOr, bindE, bindO, optO, pureO, nxS, optS, slotU, slotP, asB, asI, line, setTg, tup2, ownOf, appU, frzU, uIdx, seqOf, L2.atI, L2.ixN, isiU, uc_eq, uc_ne, uc_gt, uc_lt, uc_le, uc_ge, ul_tup, ul_lst, isNonU_non, isNonU_tup, isNonU_int, isNonU_enc, wq_put_put, wq_put_drop, wq_put_part, wq_put_ahead, wq_put_cut, wq_put_choose, wq_put_unchoose, wq_drop_put, wq_drop_drop, wq_drop_part, wq_drop_ahead, wq_drop_cut, wq_drop_choose, wq_drop_unchoose, wq_part_put, wq_part_drop, wq_part_part, wq_part_ahead, wq_part_cut, wq_part_choose, wq_part_unchoose, wq_ahead_put, wq_ahead_drop, wq_ahead_part, wq_ahead_ahead, wq_ahead_cut, wq_ahead_choose, wq_ahead_unchoose, wq_cut_put, wq_cut_drop, wq_cut_part, wq_cut_ahead, wq_cut_cut, wq_cut_choose, wq_cut_unchoose, wq_choose_put, wq_choose_drop, wq_choose_part, wq_choose_ahead, wq_choose_cut, wq_choose_choose, wq_choose_unchoose, wq_unchoose_put, wq_unchoose_drop, wq_unchoose_part, wq_unchoose_ahead, wq_unchoose_cut, wq_unchoose_choose, wq_unchoose_unchoose, wi_put_drop_unchoose, wi_drop_drop_unchoose, wi_part_drop_unchoose, wi_ahead_drop_unchoose, wi_cut_drop_unchoose, wi_choose_drop_unchoose, wi_unchoose_drop_unchoose, wi_put_choose_unchoose, wi_drop_choose_unchoose, wi_part_choose_unchoose, wi_ahead_choose_unchoose, wi_cut_choose_unchoose, wi_choose_choose_unchoose, wi_unchoose_choose_unchoose, wi_put_put_drop, wi_drop_put_drop, wi_part_put_drop, wi_ahead_put_drop, wi_cut_put_drop, wi_choose_put_drop, wi_unchoose_put_drop, c59, e0, encE, h1, h2, edS, optT, optN, hg]
    | some x =>
      rw [hg] at h1
      simp [endU, evL_disp, exB, exS, evE, evEs, evO, evT, evP, evAnd, evOr, bindE, bindO, optO, pureO, nxS, optS, slotU, slotP, asB, asI, line, setTg, tup2, ownOf, appU, frzU, uIdx, seqOf, L2.atI, L2.ixN, isiU, uc_eq, uc_ne, uc_gt, uc_lt, uc_le, uc_ge, ul_tup, ul_lst, isNonU_non, isNonU_tup, isNonU_int, isNonU_enc, wq_put_put, wq_put_drop, wq_put_part, wq_put_ahead, wq_put_cut, wq_put_choose, wq_put_unchoose, wq_drop_put, wq_drop_drop, wq_drop_part, wq_drop_ahead, wq_drop_cut, wq_drop_choose, wq_drop_unchoose, wq_part_put, wq_part_drop, wq_part_part, wq_part_ahead, wq_part_cut, wq_part_choose, wq_part_unchoose, wq_ahead_put, wq_ahead_drop, wq_ahead_part, wq_ahead_ahead, wq_ahead_cut, wq_ahead_choose, wq_ahead_unchoose, wq_cut_put, wq_cut_drop, wq_cut_part, wq_cut_ahead, wq_cut_cut, wq_cut_choose, wq_cut_unchoose, wq_choose_put, wq_choose_drop, wq_choose_part, wq_choose_ahead, wq_choose_cut, wq_choose_choose, wq_choose_unchoose, wq_unchoose_put, wq_unchoose_drop, wq_unchoose_part, wq_unchoose_ahead, wq_unchoose_cut, wq_unchoose_choose, wq_unchoose_unchoose, wi_put_drop_unchoose, wi_drop_drop_unchoose, wi_part_drop_unchoose, wi_ahead_drop_unchoose, wi_cut_drop_unchoose, wi_choose_drop_unchoose, wi_unchoose_drop_unchoose, wi_put_choose_unchoose, wi_drop_choose_unchoose, wi_part_choose_unchoose, wi_ahead_choose_unchoose, wi_cut_choose_unchoose, wi_choose_choose_unchoose, wi_unchoose_choose_unchoose, wi_put_put_drop, wi_drop_put_drop, wi_part_put_drop, wi_ahead_put_drop, wi_cut_put_drop, wi_choose_put_drop, wi_unchoose_put_drop, c59, e0, encE, h1, h2, edS, optT, optN, hg]
      rfl
  | part n p v =>
    have h1 := found_ok t.s n S d (by omega)
    cases hg : t.s.get n with
    | none =>
      rw [hg] at h1
      have hnv : newV t.s (.part n p v) = none := by simp [newV, hg]
      simp [endU, evL_disp, exB, exS, evE, evEs, evO, evT, evP, evAnd, evOr, bindE, bindO, optO, pureO, nxS, optS, slotU, slotP, asB, asI, line, setTg, tup2, ownOf, appU, frzU, uIdx, seqOf, L2.atI, L2.ixN, isiU, uc_eq, uc_ne, uc_gt, uc_lt, uc_le, uc_ge, ul_tup, ul_lst, isNonU_non, isNonU_tup, isNonU_int, isNonU_enc, wq_put_put, wq_put_drop, wq_put_part, wq_put_ahead, wq_put_cut, wq_put_choose, wq_put_unchoose, wq_drop_put, wq_drop_drop, wq_drop_part, wq_drop_ahead, wq_drop_cut, wq_drop_choose, wq_drop_unchoose, wq_part_put, wq_part_drop, wq_part_part, wq_part_ahead, wq_part_cut, wq_part_choose, wq_part_unchoose, wq_ahead_put, wq_ahead_drop, wq_ahead_part, wq_ahead_ahead, wq_ahead_cut, wq_ahead_choose, wq_ahead_unchoose, wq_cut_put, wq_cut_drop, wq_cut_part, wq_cut_ahead, wq_cut_cut, wq_cut_choose, wq_cut_unchoose, wq_choose_put, wq_choose_drop, wq_choose_part, wq_choose_ahead, wq_choose_cut, wq_choose_choose, wq_choose_unchoose, wq_unchoose_put, wq_unchoose_drop, wq_unchoose_part, wq_unchoose_ahead, wq_unchoose_cut, wq_unchoose_choose, wq_unchoose_unchoose, wi_put_drop_unchoose, wi_drop_drop_unchoose, wi_part_drop_unchoose, wi_ahead_drop_unchoose, wi_cut_drop_unchoose, wi_choose_drop_unchoose, wi_unchoose_drop_unchoose, wi_put_choose_unchoose, wi_drop_choose_unchoose, wi_part_choose_unchoose, wi_ahead_choose_unchoose, wi_cut_choose_unchoose, wi_choose_choose_unchoose, wi_unchoose_choose_unchoose, wi_put_put_drop, wi_drop_put_drop, wi_part_put_drop, wi_ahead_put_drop, wi_cut_put_drop, wi_choose_put_drop, wi_unchoose_put_drop, c59, e0, encE, h1, edS, optT, optE, hnv]
    | some here =>
      rw [hg] at h1
      have h2 := (Ev.of fun d => law_part_ok d S here p) d (by omega)
      have hnv : newV t.s (.part n p v) = wth here p v := by simp [newV, hg]
      cases hp : part here p with
      | none =>
        rw [hp] at h2
        have hw := wth_of_part (o := v) hp
        simp [endU, evL_disp, exB, exS, evE, evEs, evO, evT, evP, evAnd, evOr, bindE, bindO, optO, pureO, nxS, optS, slotU, slotP, asB, asI, line, setTg, tup2, ownOf, appU, frzU, uIdx, seqOf, L2.atI, L2.ixN, isiU, uc_eq, uc_ne, uc_gt, uc_lt, uc_le, uc_ge, ul_tup, ul_lst, isNonU_non, isNonU_tup, isNonU_int, isNonU_enc, wq_put_put, wq_put_drop, wq_put_part, wq_put_ahead, wq_put_cut, wq_put_choose, wq_put_unchoose, wq_drop_put, wq_drop_drop, wq_drop_part, wq_drop_ahead, wq_drop_cut, wq_drop_choose, wq_drop_unchoose, wq_part_put, wq_part_drop, wq_part_part, wq_part_ahead, wq_part_cut, wq_part_choose, wq_part_unchoose, wq_ahead_put, wq_ahead_drop, wq_ahead_part, wq_ahead_ahead, wq_ahead_cut, wq_ahead_choose, wq_ahead_unchoose, wq_cut_put, wq_cut_drop, wq_cut_part, wq_cut_ahead, wq_cut_cut, wq_cut_choose, wq_cut_unchoose, wq_choose_put, wq_choose_drop, wq_choose_part, wq_choose_ahead, wq_choose_cut, wq_choose_choose, wq_choose_unchoose, wq_unchoose_put, wq_unchoose_drop, wq_unchoose_part, wq_unchoose_ahead, wq_unchoose_cut, wq_unchoose_choose, wq_unchoose_unchoose, wi_put_drop_unchoose, wi_drop_drop_unchoose, wi_part_drop_unchoose, wi_ahead_drop_unchoose, wi_cut_drop_unchoose, wi_choose_drop_unchoose, wi_unchoose_drop_unchoose, wi_put_choose_unchoose, wi_drop_choose_unchoose, wi_part_choose_unchoose, wi_ahead_choose_unchoose, wi_cut_choose_unchoose, wi_choose_choose_unchoose, wi_unchoose_choose_unchoose, wi_put_put_drop, wi_drop_put_drop, wi_part_put_drop, wi_ahead_put_drop, wi_cut_put_drop, wi_choose_put_drop, wi_unchoose_put_drop, c59, e0, encE, h1, h2, edS, optT, optE, hnv, hw]
      | some c =>
        rw [hp] at h2
        have hh := g.ok n here hg
        have hv := g.v v rfl
        have h3 := law_with_e p here v S (by rw [hp]; simp) g.p (by have := hh.1; have := hv.1; omega) d hd
        cases hl : isLf c with
        | true =>
          have x1 := lx_leaf c hl
          cases hw : wth here p v with
          | none =>
            rw [hw] at h3
            simp [endU, evL_disp, exB, exS, evE, evEs, evO, evT, evP, evAnd, evOr, bindE, bindO, optO, pureO, nxS, optS, slotU, slotP, asB, asI, line, setTg, tup2, uIdx, seqOf, L2.atI, L2.ixN, uc_eq, uc_ne, isNonU_non, isNonU_enc, wq_put_put, wq_put_drop, wq_put_part, wq_put_ahead, wq_put_cut, wq_put_choose, wq_put_unchoose, wq_drop_put, wq_drop_drop, wq_drop_part, wq_drop_ahead, wq_drop_cut, wq_drop_choose, wq_drop_unchoose, wq_part_put, wq_part_drop, wq_part_part, wq_part_ahead, wq_part_cut, wq_part_choose, wq_part_unchoose, wq_ahead_put, wq_ahead_drop, wq_ahead_part, wq_ahead_ahead, wq_ahead_cut, wq_ahead_choose, wq_ahead_unchoose, wq_cut_put, wq_cut_drop, wq_cut_part, wq_cut_ahead, wq_cut_cut, wq_cut_choose, wq_cut_unchoose, wq_choose_put, wq_choose_drop, wq_choose_part, wq_choose_ahead, wq_choose_cut, wq_choose_choose, wq_choose_unchoose, wq_unchoose_put, wq_unchoose_drop, wq_unchoose_part, wq_unchoose_ahead, wq_unchoose_cut, wq_unchoose_choose, wq_unchoose_unchoose, wi_put_drop_unchoose, wi_drop_drop_unchoose, wi_part_drop_unchoose, wi_ahead_drop_unchoose, wi_cut_drop_unchoose, wi_choose_drop_unchoose, wi_unchoose_drop_unchoose, wi_put_choose_unchoose, wi_drop_choose_unchoose, wi_part_choose_unchoose, wi_ahead_choose_unchoose, wi_cut_choose_unchoose, wi_choose_choose_unchoose, wi_unchoose_choose_unchoose, wi_put_put_drop, wi_drop_put_drop, wi_part_put_drop, wi_ahead_put_drop, wi_cut_put_drop, wi_choose_put_drop, wi_unchoose_put_drop, c59, e0, encE, h1, h2, h3, edS, optT, optE, hnv, hw, x1]
          | some w =>
            rw [hw] at h3
            have h4 := law_set_some t.s n w S d (by omega)
            simp [endU, evL_disp, exB, exS, evE, evEs, evO, evT, evP, evAnd, evOr, bindE, bindO, optO, pureO, nxS, optS, slotU, slotP, asB, asI, line, setTg, tup2, uIdx, seqOf, L2.atI, L2.ixN, uc_eq, uc_ne, isNonU_non, isNonU_enc, wq_put_put, wq_put_drop, wq_put_part, wq_put_ahead, wq_put_cut, wq_put_choose, wq_put_unchoose, wq_drop_put, wq_drop_drop, wq_drop_part, wq_drop_ahead, wq_drop_cut, wq_drop_choose, wq_drop_unchoose, wq_part_put, wq_part_drop, wq_part_part, wq_part_ahead, wq_part_cut, wq_part_choose, wq_part_unchoose, wq_ahead_put, wq_ahead_drop, wq_ahead_part, wq_ahead_ahead, wq_ahead_cut, wq_ahead_choose, wq_ahead_unchoose, wq_cut_put, wq_cut_drop, wq_cut_part, wq_cut_ahead, wq_cut_cut, wq_cut_choose, wq_cut_unchoose, wq_choose_put, wq_choose_drop, wq_choose_part, wq_choose_ahead, wq_choose_cut, wq_choose_choose, wq_choose_unchoose, wq_unchoose_put, wq_unchoose_drop, wq_unchoose_part, wq_unchoose_ahead, wq_unchoose_cut, wq_unchoose_choose, wq_unchoose_unchoose, wi_put_drop_unchoose, wi_drop_drop_unchoose, wi_part_drop_unchoose, wi_ahead_drop_unchoose, wi_cut_drop_unchoose, wi_choose_drop_unchoose, wi_unchoose_drop_unchoose, wi_put_choose_unchoose, wi_drop_choose_unchoose, wi_part_choose_unchoose, wi_ahead_choose_unchoose, wi_cut_choose_unchoose, wi_choose_choose_unchoose, wi_unchoose_choose_unchoose, wi_put_put_drop, wi_drop_put_drop, wi_part_put_drop, wi_ahead_put_drop, wi_cut_put_drop, wi_choose_put_drop, wi_unchoose_put_drop, c59, e0, encE, h1, h2, h3, h4, edS, optT, optE, hnv, hw, x1]
            rfl
        | false =>
          obtain ⟨wd, x1, x2, x3⟩ := lx_list c S hl
          cases hw : wth here p v with
          | none =>
            rw [hw] at h3
            simp [endU, evL_disp, exB, exS, evE, evEs, evO, evT, evP, evAnd, evOr, bindE, bindO, optO, pureO, nxS, optS, slotU, slotP, asB, asI, line, setTg, tup2, uc_eq, uc_ne, isNonU_non, isNonU_enc, wq_put_put, wq_put_drop, wq_put_part, wq_put_ahead, wq_put_cut, wq_put_choose, wq_put_unchoose, wq_drop_put, wq_drop_drop, wq_drop_part, wq_drop_ahead, wq_drop_cut, wq_drop_choose, wq_drop_unchoose, wq_part_put, wq_part_drop, wq_part_part, wq_part_ahead, wq_part_cut, wq_part_choose, wq_part_unchoose, wq_ahead_put, wq_ahead_drop, wq_ahead_part, wq_ahead_ahead, wq_ahead_cut, wq_ahead_choose, wq_ahead_unchoose, wq_cut_put, wq_cut_drop, wq_cut_part, wq_cut_ahead, wq_cut_cut, wq_cut_choose, wq_cut_unchoose, wq_choose_put, wq_choose_drop, wq_choose_part, wq_choose_ahead, wq_choose_cut, wq_choose_choose, wq_choose_unchoose, wq_unchoose_put, wq_unchoose_drop, wq_unchoose_part, wq_unchoose_ahead, wq_unchoose_cut, wq_unchoose_choose, wq_unchoose_unchoose, wi_put_drop_unchoose, wi_drop_drop_unchoose, wi_part_drop_unchoose, wi_ahead_drop_unchoose, wi_cut_drop_unchoose, wi_choose_drop_unchoose, wi_unchoose_drop_unchoose, wi_put_choose_unchoose, wi_drop_choose_unchoose, wi_part_choose_unchoose, wi_ahead_choose_unchoose, wi_cut_choose_unchoose, wi_choose_choose_unchoose, wi_unchoose_choose_unchoose, wi_put_put_drop, wi_drop_put_drop, wi_part_put_drop, wi_ahead_put_drop, wi_cut_put_drop, wi_choose_put_drop, wi_unchoose_put_drop, c59, e0, encE, h1, h2, h3, edS, optT, optE, hnv, hw, x1, x2, x3, ix0, ix1, ix2, ix3, ixm4, ixm3]
          | some w =>
            rw [hw] at h3
            have h4 := law_set_some t.s n w S d (by omega)
            simp [endU, evL_disp, exB, exS, evE, evEs, evO, evT, evP, evAnd, evOr, bindE, bindO, optO, pureO, nxS, optS, slotU, slotP, asB, asI, line, setTg, tup2, uc_eq, uc_ne, isNonU_non, isNonU_enc, wq_put_put, wq_put_drop, wq_put_part, wq_put_ahead, wq_put_cut, wq_put_choose, wq_put_unchoose, wq_drop_put, wq_drop_drop, wq_drop_part, wq_drop_ahead, wq_drop_cut, wq_drop_choose, wq_drop_unchoose, wq_part_put, wq_part_drop, wq_part_part, wq_part_ahead, wq_part_cut, wq_part_choose, wq_part_unchoose, wq_ahead_put, wq_ahead_drop, wq_ahead_part, wq_ahead_ahead, wq_ahead_cut, wq_ahead_choose, wq_ahead_unchoose, wq_cut_put, wq_cut_drop, wq_cut_part, wq_cut_ahead, wq_cut_cut, wq_cut_choose, wq_cut_unchoose, wq_choose_put, wq_choose_drop, wq_choose_part, wq_choose_ahead, wq_choose_cut, wq_choose_choose, wq_choose_unchoose, wq_unchoose_put, wq_unchoose_drop, wq_unchoose_part, wq_unchoose_ahead, wq_unchoose_cut, wq_unchoose_choose, wq_unchoose_unchoose, wi_put_drop_unchoose, wi_drop_drop_unchoose, wi_part_drop_unchoose, wi_ahead_drop_unchoose, wi_cut_drop_unchoose, wi_choose_drop_unchoose, wi_unchoose_drop_unchoose, wi_put_choose_unchoose, wi_drop_choose_unchoose, wi_part_choose_unchoose, wi_ahead_choose_unchoose, wi_cut_choose_unchoose, wi_choose_choose_unchoose, wi_unchoose_choose_unchoose, wi_put_put_drop, wi_drop_put_drop, wi_part_put_drop, wi_ahead_put_drop, wi_cut_put_drop, wi_choose_put_drop, wi_unchoose_put_drop, c59, e0, encE, h1, h2, h3, h4, edS, optT, optE, hnv, hw, x1, x2, x3, ix0, ix1, ix2, ix3, ixm4, ixm3]
            rfl
  | ahead n p v =>
    have h1 := found_ok t.s n S d (by omega)
    cases hg : t.s.get n with
    | none =>
      rw [hg] at h1
      have hnv : newV t.s (.ahead n p v) = none := by simp [newV, hg]
      simp [endU, evL_disp, exB, exS, evE, evEs, evO, evT, evP, evAnd, evOr, bindE, bindO, optO, pureO, nxS, optS, slotU, slotP, asB, asI, line, setTg, tup2, ownOf, appU, frzU, uIdx, seqOf, L2.atI, L2.ixN, isiU, uc_eq, uc_ne, uc_gt, uc_lt, uc_le, uc_ge, ul_tup, ul_lst, isNonU_non, isNonU_tup, isNonU_int, isNonU_enc, wq_put_put, wq_put_drop, wq_put_part, wq_put_ahead, wq_put_cut, wq_put_choose, wq_put_unchoose, wq_drop_put, wq_drop_drop, wq_drop_part, wq_drop_ahead, wq_drop_cut, wq_drop_choose, wq_drop_unchoose, wq_part_put, wq_part_drop, wq_part_part, wq_part_ahead, wq_part_cut, wq_part_choose, wq_part_unchoose, wq_ahead_put, wq_ahead_drop, wq_ahead_part, wq_ahead_ahead, wq_ahead_cut, wq_ahead_choose, wq_ahead_unchoose, wq_cut_put, wq_cut_drop, wq_cut_part, wq_cut_ahead, wq_cut_cut, wq_cut_choose, wq_cut_unchoose, wq_choose_put, wq_choose_drop, wq_choose_part, wq_choose_ahead, wq_choose_cut, wq_choose_choose, wq_choose_unchoose, wq_unchoose_put, wq_unchoose_drop, wq_unchoose_part, wq_unchoose_ahead, wq_unchoose_cut, wq_unchoose_choose, wq_unchoose_unchoose, wi_put_drop_unchoose, wi_drop_drop_unchoose, wi_part_drop_unchoose, wi_ahead_drop_unchoose, wi_cut_drop_unchoose, wi_choose_drop_unchoose, wi_unchoose_drop_unchoose, wi_put_choose_unchoose, wi_drop_choose_unchoose, wi_part_choose_unchoose, wi_ahead_choose_unchoose, wi_cut_choose_unchoose, wi_choose_choose_unchoose, wi_unchoose_choose_unchoose, wi_put_put_drop, wi_drop_put_drop, wi_part_put_drop, wi_ahead_put_drop, wi_cut_put_drop, wi_choose_put_drop, wi_unchoose_put_drop, c59, e0, encE, h1, edS, optT, optE, hnv]
    | some here =>
      rw [hg] at h1
      have h2 := (Ev.of fun d => law_part_ok d S here p) d (by omega)
      cases hp : part here p with
      | none =>
        rw [hp] at h2
        have hnv : newV t.s (.ahead n p v) = none := by simp [newV, hg, hp]
        simp [endU, evL_disp, exB, exS, evE, evEs, evO, evT, evP, evAnd, evOr, bindE, bindO, optO, pureO, nxS, optS, slotU, slotP, asB, asI, line, setTg, tup2, ownOf, appU, frzU, uIdx, seqOf, L2.atI, L2.ixN, isiU, uc_eq, uc_ne, uc_gt, uc_lt, uc_le, uc_ge, ul_tup, ul_lst, isNonU_non, isNonU_tup, isNonU_int, isNonU_enc, wq_put_put, wq_put_drop, wq_put_part, wq_put_ahead, wq_put_cut, wq_put_choose, wq_put_unchoose, wq_drop_put, wq_drop_drop, wq_drop_part, wq_drop_ahead, wq_drop_cut, wq_drop_choose, wq_drop_unchoose, wq_part_put, wq_part_drop, wq_part_part, wq_part_ahead, wq_part_cut, wq_part_choose, wq_part_unchoose, wq_ahead_put, wq_ahead_drop, wq_ahead_part, wq_ahead_ahead, wq_ahead_cut, wq_ahead_choose, wq_ahead_unchoose, wq_cut_put, wq_cut_drop, wq_cut_part, wq_cut_ahead, wq_cut_cut, wq_cut_choose, wq_cut_unchoose, wq_choose_put, wq_choose_drop, wq_choose_part, wq_choose_ahead, wq_choose_cut, wq_choose_choose, wq_choose_unchoose, wq_unchoose_put, wq_unchoose_drop, wq_unchoose_part, wq_unchoose_ahead, wq_unchoose_cut, wq_unchoose_choose, wq_unchoose_unchoose, wi_put_drop_unchoose, wi_drop_drop_unchoose, wi_part_drop_unchoose, wi_ahead_drop_unchoose, wi_cut_drop_unchoose, wi_choose_drop_unchoose, wi_unchoose_drop_unchoose, wi_put_choose_unchoose, wi_drop_choose_unchoose, wi_part_choose_unchoose, wi_ahead_choose_unchoose, wi_cut_choose_unchoose, wi_choose_choose_unchoose, wi_unchoose_choose_unchoose, wi_put_put_drop, wi_drop_put_drop, wi_part_put_drop, wi_ahead_put_drop, wi_cut_put_drop, wi_choose_put_drop, wi_unchoose_put_drop, c59, e0, encE, h1, h2, edS, optT, optE, hnv]
      | some c =>
        rw [hp] at h2
        have hh := g.ok n here hg
        have hv := g.v v rfl
        cases hl : isLf c with
        | true =>
          have x1 := lx_leaf c hl
          have hnv : newV t.s (.ahead n p v) = none := by
            cases c with
            | lf l => simp [newV, hg, hp]
            | _ => cases hl
          simp [endU, evL_disp, exB, exS, evE, evEs, evO, evT, evP, evAnd, evOr, bindE, bindO, optO, pureO, nxS, optS, slotU, slotP, asB, asI, line, setTg, tup2, uc_eq, uc_ne, isNonU_non, isNonU_enc, wq_put_put, wq_put_drop, wq_put_part, wq_put_ahead, wq_put_cut, wq_put_choose, wq_put_unchoose, wq_drop_put, wq_drop_drop, wq_drop_part, wq_drop_ahead, wq_drop_cut, wq_drop_choose, wq_drop_unchoose, wq_part_put, wq_part_drop, wq_part_part, wq_part_ahead, wq_part_cut, wq_part_choose, wq_part_unchoose, wq_ahead_put, wq_ahead_drop, wq_ahead_part, wq_ahead_ahead, wq_ahead_cut, wq_ahead_choose, wq_ahead_unchoose, wq_cut_put, wq_cut_drop, wq_cut_part, wq_cut_ahead, wq_cut_cut, wq_cut_choose, wq_cut_unchoose, wq_choose_put, wq_choose_drop, wq_choose_part, wq_choose_ahead, wq_choose_cut, wq_choose_choose, wq_choose_unchoose, wq_unchoose_put, wq_unchoose_drop, wq_unchoose_part, wq_unchoose_ahead, wq_unchoose_cut, wq_unchoose_choose, wq_unchoose_unchoose, wi_put_drop_unchoose, wi_drop_drop_unchoose, wi_part_drop_unchoose, wi_ahead_drop_unchoose, wi_cut_drop_unchoose, wi_choose_drop_unchoose, wi_unchoose_drop_unchoose, wi_put_choose_unchoose, wi_drop_choose_unchoose, wi_part_choose_unchoose, wi_ahead_choose_unchoose, wi_cut_choose_unchoose, wi_choose_choose_unchoose, wi_unchoose_choose_unchoose, wi_put_put_drop, wi_drop_put_drop, wi_part_put_drop, wi_ahead_put_drop, wi_cut_put_drop, wi_choose_put_drop, wi_unchoose_put_drop, c59, e0, encE, h1, h2, edS, optT, optE, hnv, x1, ix0, ix1, ix2, ix3, ixm4, ixm3]
        | false =>
          obtain ⟨wd, x1, x2, x3⟩ := lx_list c S hl
          cases hli : isLis c with
          | false =>
            rw [hli] at x2
            have hnv : newV t.s (.ahead n p v) = none := by
              cases c with
              | lis vs => cases hli
              | _ => simp [newV, hg, hp]
            simp [endU, evL_disp, exB, exS, evE, evEs, evO, evT, evP, evAnd, evOr, bindE, bindO, optO, pureO, nxS, optS, slotU, slotP, asB, asI, line, setTg, tup2, uc_eq, uc_ne, isNonU_non, isNonU_enc, wq_put_put, wq_put_drop, wq_put_part, wq_put_ahead, wq_put_cut, wq_put_choose, wq_put_unchoose, wq_drop_put, wq_drop_drop, wq_drop_part, wq_drop_ahead, wq_drop_cut, wq_drop_choose, wq_drop_unchoose, wq_part_put, wq_part_drop, wq_part_part, wq_part_ahead, wq_part_cut, wq_part_choose, wq_part_unchoose, wq_ahead_put, wq_ahead_drop, wq_ahead_part, wq_ahead_ahead, wq_ahead_cut, wq_ahead_choose, wq_ahead_unchoose, wq_cut_put, wq_cut_drop, wq_cut_part, wq_cut_ahead, wq_cut_cut, wq_cut_choose, wq_cut_unchoose, wq_choose_put, wq_choose_drop, wq_choose_part, wq_choose_ahead, wq_choose_cut, wq_choose_choose, wq_choose_unchoose, wq_unchoose_put, wq_unchoose_drop, wq_unchoose_part, wq_unchoose_ahead, wq_unchoose_cut, wq_unchoose_choose, wq_unchoose_unchoose, wi_put_drop_unchoose, wi_drop_drop_unchoose, wi_part_drop_unchoose, wi_ahead_drop_unchoose, wi_cut_drop_unchoose, wi_choose_drop_unchoose, wi_unchoose_drop_unchoose, wi_put_choose_unchoose, wi_drop_choose_unchoose, wi_part_choose_unchoose, wi_ahead_choose_unchoose, wi_cut_choose_unchoose, wi_choose_choose_unchoose, wi_unchoose_choose_unchoose, wi_put_put_drop, wi_drop_put_drop, wi_part_put_drop, wi_ahead_put_drop, wi_cut_put_drop, wi_choose_put_drop, wi_unchoose_put_drop, c59, e0, encE, h1, h2, edS, optT, optE, hnv, x1, x2, x3, ix0, ix1, ix2, ix3, ixm4, ixm3]
          | true =>
            rw [hli] at x2
            cases c with
            | lis vs =>
              have hc := nod_part hp
              have hle := len_nods vs
              have hnv : newV t.s (.ahead n p v) = wth here p (.lis (.cons v vs)) := by simp [newV, hg, hp]
              have h3 := law_with_e p here (.lis (.cons v vs)) S (by rw [hp]; simp) g.p (by have := hh.1; have := hv.1; simp [nod, nods] at hc ⊢; omega) d hd
              have h3 : R d 56 [enc here, encP p, .tup [.str "list", .tup (enc v :: encs vs)]] S = _ := h3
              have ha := add_tup1 (enc v) vs (by have := hh.1; simp [nod] at hc; omega)
              have x4 : uIdx S (enc (.lis vs)) (.int 1) = some (.tup (encs vs)) := rfl
              cases hw : wth here p (.lis (.cons v vs)) with
              | none =>
                rw [hw] at h3
                simp [endU, evL_disp, exB, exS, evE, evEs, evO, evT, evP, evAnd, evOr, bindE, bindO, optO, pureO, nxS, optS, slotU, slotP, asB, asI, line, setTg, tup2, uc_eq, uc_ne, isNonU_non, isNonU_enc, wq_put_put, wq_put_drop, wq_put_part, wq_put_ahead, wq_put_cut, wq_put_choose, wq_put_unchoose, wq_drop_put, wq_drop_drop, wq_drop_part, wq_drop_ahead, wq_drop_cut, wq_drop_choose, wq_drop_unchoose, wq_part_put, wq_part_drop, wq_part_part, wq_part_ahead, wq_part_cut, wq_part_choose, wq_part_unchoose, wq_ahead_put, wq_ahead_drop, wq_ahead_part, wq_ahead_ahead, wq_ahead_cut, wq_ahead_choose, wq_ahead_unchoose, wq_cut_put, wq_cut_drop, wq_cut_part, wq_cut_ahead, wq_cut_cut, wq_cut_choose, wq_cut_unchoose, wq_choose_put, wq_choose_drop, wq_choose_part, wq_choose_ahead, wq_choose_cut, wq_choose_choose, wq_choose_unchoose, wq_unchoose_put, wq_unchoose_drop, wq_unchoose_part, wq_unchoose_ahead, wq_unchoose_cut, wq_unchoose_choose, wq_unchoose_unchoose, wi_put_drop_unchoose, wi_drop_drop_unchoose, wi_part_drop_unchoose, wi_ahead_drop_unchoose, wi_cut_drop_unchoose, wi_choose_drop_unchoose, wi_unchoose_drop_unchoose, wi_put_choose_unchoose, wi_drop_choose_unchoose, wi_part_choose_unchoose, wi_ahead_choose_unchoose, wi_cut_choose_unchoose, wi_choose_choose_unchoose, wi_unchoose_choose_unchoose, wi_put_put_drop, wi_drop_put_drop, wi_part_put_drop, wi_ahead_put_drop, wi_cut_put_drop, wi_choose_put_drop, wi_unchoose_put_drop, c59, e0, encE, h1, h2, h3, edS, optT, optE, hnv, hw, x1, x2, x3, x4, ha, ix0, ix1, ix2, ix3, ixm4, ixm3]
              | some w =>
                rw [hw] at h3
                have h4 := law_set_some t.s n w S d (by omega)
                simp [endU, evL_disp, exB, exS, evE, evEs, evO, evT, evP, evAnd, evOr, bindE, bindO, optO, pureO, nxS, optS, slotU, slotP, asB, asI, line, setTg, tup2, uc_eq, uc_ne, isNonU_non, isNonU_enc, wq_put_put, wq_put_drop, wq_put_part, wq_put_ahead, wq_put_cut, wq_put_choose, wq_put_unchoose, wq_drop_put, wq_drop_drop, wq_drop_part, wq_drop_ahead, wq_drop_cut, wq_drop_choose, wq_drop_unchoose, wq_part_put, wq_part_drop, wq_part_part, wq_part_ahead, wq_part_cut, wq_part_choose, wq_part_unchoose, wq_ahead_put, wq_ahead_drop, wq_ahead_part, wq_ahead_ahead, wq_ahead_cut, wq_ahead_choose, wq_ahead_unchoose, wq_cut_put, wq_cut_drop, wq_cut_part, wq_cut_ahead, wq_cut_cut, wq_cut_choose, wq_cut_unchoose, wq_choose_put, wq_choose_drop, wq_choose_part, wq_choose_ahead, wq_choose_cut, wq_choose_choose, wq_choose_unchoose, wq_unchoose_put, wq_unchoose_drop, wq_unchoose_part, wq_unchoose_ahead, wq_unchoose_cut, wq_unchoose_choose, wq_unchoose_unchoose, wi_put_drop_unchoose, wi_drop_drop_unchoose, wi_part_drop_unchoose, wi_ahead_drop_unchoose, wi_cut_drop_unchoose, wi_choose_drop_unchoose, wi_unchoose_drop_unchoose, wi_put_choose_unchoose, wi_drop_choose_unchoose, wi_part_choose_unchoose, wi_ahead_choose_unchoose, wi_cut_choose_unchoose, wi_choose_choose_unchoose, wi_unchoose_choose_unchoose, wi_put_put_drop, wi_drop_put_drop, wi_part_put_drop, wi_ahead_put_drop, wi_cut_put_drop, wi_choose_put_drop, wi_unchoose_put_drop, c59, e0, encE, h1, h2, h3, h4, edS, optT, optE, hnv, hw, x1, x2, x3, x4, ha, ix0, ix1, ix2, ix3, ixm4, ixm3]
                rfl
            | _ => cases hli
  | cut n p =>
    have h1 := found_ok t.s n S d (by omega)
    cases hg : t.s.get n with
    | none =>
      rw [hg] at h1
      have hnv : newV t.s (.cut n p) = none := by simp [newV, hg]
      simp [endU, evL_disp, exB, exS, evE, evEs, evO, evT, evP, evAnd, evOr, bindE, bindO, optO, pureO, nxS, optS, slotU, slotP, asB, asI, line, setTg, tup2, ownOf, appU, frzU, uIdx, seqOf, L2.atI, L2.ixN, isiU, uc_eq, uc_ne, uc_gt, uc_lt, uc_le, uc_ge, ul_tup, ul_lst, isNonU_non, isNonU_tup, isNonU_int, isNonU_enc, wq_put_put, wq_put_drop, wq_put_part, wq_put_ahead, wq_put_cut, wq_put_choose, wq_put_unchoose, wq_drop_put, wq_drop_drop, wq_drop_part, wq_drop_ahead, wq_drop_cut, wq_drop_choose, wq_drop_unchoose, wq_part_put, wq_part_drop, wq_part_part, wq_part_ahead, wq_part_cut, wq_part_choose, wq_part_unchoose, wq_ahead_put, wq_ahead_drop, wq_ahead_part, wq_ahead_ahead, wq_ahead_cut, wq_ahead_choose, wq_ahead_unchoose, wq_cut_put, wq_cut_drop, wq_cut_part, wq_cut_ahead, wq_cut_cut, wq_cut_choose, wq_cut_unchoose, wq_choose_put, wq_choose_drop, wq_choose_part, wq_choose_ahead, wq_choose_cut, wq_choose_choose, wq_choose_unchoose, wq_unchoose_put, wq_unchoose_drop, wq_unchoose_part, wq_unchoose_ahead, wq_unchoose_cut, wq_unchoose_choose, wq_unchoose_unchoose, wi_put_drop_unchoose, wi_drop_drop_unchoose, wi_part_drop_unchoose, wi_ahead_drop_unchoose, wi_cut_drop_unchoose, wi_choose_drop_unchoose, wi_unchoose_drop_unchoose, wi_put_choose_unchoose, wi_drop_choose_unchoose, wi_part_choose_unchoose, wi_ahead_choose_unchoose, wi_cut_choose_unchoose, wi_choose_choose_unchoose, wi_unchoose_choose_unchoose, wi_put_put_drop, wi_drop_put_drop, wi_part_put_drop, wi_ahead_put_drop, wi_cut_put_drop, wi_choose_put_drop, wi_unchoose_put_drop, c59, e0, encE, h1, edS, optT, optE, hnv]
    | some here =>
      rw [hg] at h1
      have h2 := (Ev.of fun d => law_part_ok d S here p) d (by omega)
      cases hp : part here p with
      | none =>
        rw [hp] at h2
        have hnv : newV t.s (.cut n p) = none := by simp [newV, hg, hp]
        simp [endU, evL_disp, exB, exS, evE, evEs, evO, evT, evP, evAnd, evOr, bindE, bindO, optO, pureO, nxS, optS, slotU, slotP, asB, asI, line, setTg, tup2, ownOf, appU, frzU, uIdx, seqOf, L2.atI, L2.ixN, isiU, uc_eq, uc_ne, uc_gt, uc_lt, uc_le, uc_ge, ul_tup, ul_lst, isNonU_non, isNonU_tup, isNonU_int, isNonU_enc, wq_put_put, wq_put_drop, wq_put_part, wq_put_ahead, wq_put_cut, wq_put_choose, wq_put_unchoose, wq_drop_put, wq_drop_drop, wq_drop_part, wq_drop_ahead, wq_drop_cut, wq_drop_choose, wq_drop_unchoose, wq_part_put, wq_part_drop, wq_part_part, wq_part_ahead, wq_part_cut, wq_part_choose, wq_part_unchoose, wq_ahead_put, wq_ahead_drop, wq_ahead_part, wq_ahead_ahead, wq_ahead_cut, wq_ahead_choose, wq_ahead_unchoose, wq_cut_put, wq_cut_drop, wq_cut_part, wq_cut_ahead, wq_cut_cut, wq_cut_choose, wq_cut_unchoose, wq_choose_put, wq_choose_drop, wq_choose_part, wq_choose_ahead, wq_choose_cut, wq_choose_choose, wq_choose_unchoose, wq_unchoose_put, wq_unchoose_drop, wq_unchoose_part, wq_unchoose_ahead, wq_unchoose_cut, wq_unchoose_choose, wq_unchoose_unchoose, wi_put_drop_unchoose, wi_drop_drop_unchoose, wi_part_drop_unchoose, wi_ahead_drop_unchoose, wi_cut_drop_unchoose, wi_choose_drop_unchoose, wi_unchoose_drop_unchoose, wi_put_choose_unchoose, wi_drop_choose_unchoose, wi_part_choose_unchoose, wi_ahead_choose_unchoose, wi_cut_choose_unchoose, wi_choose_choose_unchoose, wi_unchoose_choose_unchoose, wi_put_put_drop, wi_drop_put_drop, wi_part_put_drop, wi_ahead_put_drop, wi_cut_put_drop, wi_choose_put_drop, wi_unchoose_put_drop, c59, e0, encE, h1, h2, edS, optT, optE, hnv]
      | some c =>
        rw [hp] at h2
        have hh := g.ok n here hg
        cases hl : isLf c with
        | true =>
          have x1 := lx_leaf c hl
          have hnv : newV t.s (.cut n p) = none := by
            cases c with
            | lf l => simp [newV, hg, hp]
            | _ => cases hl
          simp [endU, evL_disp, exB, exS, evE, evEs, evO, evT, evP, evAnd, evOr, bindE, bindO, optO, pureO, nxS, optS, slotU, slotP, asB, asI, line, setTg, tup2, uc_eq, uc_ne, isNonU_non, isNonU_enc, wq_put_put, wq_put_drop, wq_put_part, wq_put_ahead, wq_put_cut, wq_put_choose, wq_put_unchoose, wq_drop_put, wq_drop_drop, wq_drop_part, wq_drop_ahead, wq_drop_cut, wq_drop_choose, wq_drop_unchoose, wq_part_put, wq_part_drop, wq_part_part, wq_part_ahead, wq_part_cut, wq_part_choose, wq_part_unchoose, wq_ahead_put, wq_ahead_drop, wq_ahead_part, wq_ahead_ahead, wq_ahead_cut, wq_ahead_choose, wq_ahead_unchoose, wq_cut_put, wq_cut_drop, wq_cut_part, wq_cut_ahead, wq_cut_cut, wq_cut_choose, wq_cut_unchoose, wq_choose_put, wq_choose_drop, wq_choose_part, wq_choose_ahead, wq_choose_cut, wq_choose_choose, wq_choose_unchoose, wq_unchoose_put, wq_unchoose_drop, wq_unchoose_part, wq_unchoose_ahead, wq_unchoose_cut, wq_unchoose_choose, wq_unchoose_unchoose, wi_put_drop_unchoose, wi_drop_drop_unchoose, wi_part_drop_unchoose, wi_ahead_drop_unchoose, wi_cut_drop_unchoose, wi_choose_drop_unchoose, wi_unchoose_drop_unchoose, wi_put_choose_unchoose, wi_drop_choose_unchoose, wi_part_choose_unchoose, wi_ahead_choose_unchoose, wi_cut_choose_unchoose, wi_choose_choose_unchoose, wi_unchoose_choose_unchoose, wi_put_put_drop, wi_drop_put_drop, wi_part_put_drop, wi_ahead_put_drop, wi_cut_put_drop, wi_choose_put_drop, wi_unchoose_put_drop, c59, e0, encE, h1, h2, edS, optT, optE, hnv, x1, ix0, ix1, ix2, ix3, ixm4, ixm3]
        | false =>
          obtain ⟨wd, x1, x2, x3⟩ := lx_list c S hl
          cases hli : isLis c with
          | false =>
            rw [hli] at x2
            have hnv : newV t.s (.cut n p) = none := by
              cases c with
              | lis vs => cases hli
              | _ => simp [newV, hg, hp]
            simp [endU, evL_disp, exB, exS, evE, evEs, evO, evT, evP, evAnd, evOr, bindE, bindO, optO, pureO, nxS, optS, slotU, slotP, asB, asI, line, setTg, tup2, uc_eq, uc_ne, isNonU_non, isNonU_enc, wq_put_put, wq_put_drop, wq_put_part, wq_put_ahead, wq_put_cut, wq_put_choose, wq_put_unchoose, wq_drop_put, wq_drop_drop, wq_drop_part, wq_drop_ahead, wq_drop_cut, wq_drop_choose, wq_drop_unchoose, wq_part_put, wq_part_drop, wq_part_part, wq_part_ahead, wq_part_cut, wq_part_choose, wq_part_unchoose, wq_ahead_put, wq_ahead_drop, wq_ahead_part, wq_ahead_ahead, wq_ahead_cut, wq_ahead_choose, wq_ahead_unchoose, wq_cut_put, wq_cut_drop, wq_cut_part, wq_cut_ahead, wq_cut_cut, wq_cut_choose, wq_cut_unchoose, wq_choose_put, wq_choose_drop, wq_choose_part, wq_choose_ahead, wq_choose_cut, wq_choose_choose, wq_choose_unchoose, wq_unchoose_put, wq_unchoose_drop, wq_unchoose_part, wq_unchoose_ahead, wq_unchoose_cut, wq_unchoose_choose, wq_unchoose_unchoose, wi_put_drop_unchoose, wi_drop_drop_unchoose, wi_part_drop_unchoose, wi_ahead_drop_unchoose, wi_cut_drop_unchoose, wi_choose_drop_unchoose, wi_unchoose_drop_unchoose, wi_put_choose_unchoose, wi_drop_choose_unchoose, wi_part_choose_unchoose, wi_ahead_choose_unchoose, wi_cut_choose_unchoose, wi_choose_choose_unchoose, wi_unchoose_choose_unchoose, wi_put_put_drop, wi_drop_put_drop, wi_part_put_drop, wi_ahead_put_drop, wi_cut_put_drop, wi_choose_put_drop, wi_unchoose_put_drop, c59, e0, encE, h1, h2, edS, optT, optE, hnv, x1, x2, x3, ix0, ix1, ix2, ix3, ixm4, ixm3]
          | true =>
            rw [hli] at x2
            cases c with
            | lis vs =>
              have x4 : uIdx S (enc (.lis vs)) (.int 1) = some (.tup (encs vs)) := rfl
              cases vs with
              | nil =>
                have hnv : newV t.s (.cut n p) = none := by simp [newV, hg, hp]
                simp [endU, evL_disp, exB, exS, evE, evEs, evO, evT, evP, evAnd, evOr, bindE, bindO, optO, pureO, nxS, optS, slotU, slotP, asB, asI, line, setTg, tup2, uc_eq, uc_ne, ul_tup, isNonU_non, isNonU_enc, wq_put_put, wq_put_drop, wq_put_part, wq_put_ahead, wq_put_cut, wq_put_choose, wq_put_unchoose, wq_drop_put, wq_drop_drop, wq_drop_part, wq_drop_ahead, wq_drop_cut, wq_drop_choose, wq_drop_unchoose, wq_part_put, wq_part_drop, wq_part_part, wq_part_ahead, wq_part_cut, wq_part_choose, wq_part_unchoose, wq_ahead_put, wq_ahead_drop, wq_ahead_part, wq_ahead_ahead, wq_ahead_cut, wq_ahead_choose, wq_ahead_unchoose, wq_cut_put, wq_cut_drop, wq_cut_part, wq_cut_ahead, wq_cut_cut, wq_cut_choose, wq_cut_unchoose, wq_choose_put, wq_choose_drop, wq_choose_part, wq_choose_ahead, wq_choose_cut, wq_choose_choose, wq_choose_unchoose, wq_unchoose_put, wq_unchoose_drop, wq_unchoose_part, wq_unchoose_ahead, wq_unchoose_cut, wq_unchoose_choose, wq_unchoose_unchoose, wi_put_drop_unchoose, wi_drop_drop_unchoose, wi_part_drop_unchoose, wi_ahead_drop_unchoose, wi_cut_drop_unchoose, wi_choose_drop_unchoose, wi_unchoose_drop_unchoose, wi_put_choose_unchoose, wi_drop_choose_unchoose, wi_part_choose_unchoose, wi_ahead_choose_unchoose, wi_cut_choose_unchoose, wi_choose_choose_unchoose, wi_unchoose_choose_unchoose, wi_put_put_drop, wi_drop_put_drop, wi_part_put_drop, wi_ahead_put_drop, wi_cut_put_drop, wi_choose_put_drop, wi_unchoose_put_drop, c59, e0, encE, encs, uEq_int, h1, h2, edS, optT, optE, hnv, x1, x2, x3, x4, ix0, ix1, ix2, ix3, ixm4, ixm3]
              | cons x vs =>
                have hc := nod_part hp
                have hnv : newV t.s (.cut n p) = wth here p (.lis vs) := by simp [newV, hg, hp]
                have h3 := law_with_e p here (.lis vs) S (by rw [hp]; simp) g.p (by have := hh.1; simp [nod, nods] at hc ⊢; omega) d hd
                have h3 : R d 56 [enc here, encP p, .tup [.str "list", .tup (encs vs)]] S = _ := h3
                have hz : encs (.cons x vs) ≠ [] := by simp [encs]
                have hsl : uSlc (.tup (encs (.cons x vs))) (some 1) none = some (.tup (encs vs)) := slc1 _ _
                cases hw : wth here p (.lis vs) with
                | none =>
                  rw [hw] at h3
                  simp [endU, evL_disp, exB, exS, evE, evEs, evO, evT, evP, evAnd, evOr, bindE, bindO, optO, pureO, nxS, optS, slotU, slotP, asB, asI, line, setTg, tup2, uc_eq, uc_ne, ul_tup, isNonU_non, isNonU_enc, wq_put_put, wq_put_drop, wq_put_part, wq_put_ahead, wq_put_cut, wq_put_choose, wq_put_unchoose, wq_drop_put, wq_drop_drop, wq_drop_part, wq_drop_ahead, wq_drop_cut, wq_drop_choose, wq_drop_unchoose, wq_part_put, wq_part_drop, wq_part_part, wq_part_ahead, wq_part_cut, wq_part_choose, wq_part_unchoose, wq_ahead_put, wq_ahead_drop, wq_ahead_part, wq_ahead_ahead, wq_ahead_cut, wq_ahead_choose, wq_ahead_unchoose, wq_cut_put, wq_cut_drop, wq_cut_part, wq_cut_ahead, wq_cut_cut, wq_cut_choose, wq_cut_unchoose, wq_choose_put, wq_choose_drop, wq_choose_part, wq_choose_ahead, wq_choose_cut, wq_choose_choose, wq_choose_unchoose, wq_unchoose_put, wq_unchoose_drop, wq_unchoose_part, wq_unchoose_ahead, wq_unchoose_cut, wq_unchoose_choose, wq_unchoose_unchoose, wi_put_drop_unchoose, wi_drop_drop_unchoose, wi_part_drop_unchoose, wi_ahead_drop_unchoose, wi_cut_drop_unchoose, wi_choose_drop_unchoose, wi_unchoose_drop_unchoose, wi_put_choose_unchoose, wi_drop_choose_unchoose, wi_part_choose_unchoose, wi_ahead_choose_unchoose, wi_cut_choose_unchoose, wi_choose_choose_unchoose, wi_unchoose_choose_unchoose, wi_put_put_drop, wi_drop_put_drop, wi_part_put_drop, wi_ahead_put_drop, wi_cut_put_drop, wi_choose_put_drop, wi_unchoose_put_drop, c59, e0, encE, uEq_int, hz, h1, h2, h3, edS, optT, optE, hnv, hw, x1, x2, x3, x4, hsl, ix0, ix1, ix2, ix3, ixm4, ixm3]
                | some w =>
                  rw [hw] at h3
                  have h4 := law_set_some t.s n w S d (by omega)
                  simp [endU, evL_disp, exB, exS, evE, evEs, evO, evT, evP, evAnd, evOr, bindE, bindO, optO, pureO, nxS, optS, slotU, slotP, asB, asI, line, setTg, tup2, uc_eq, uc_ne, ul_tup, isNonU_non, isNonU_enc, wq_put_put, wq_put_drop, wq_put_part, wq_put_ahead, wq_put_cut, wq_put_choose, wq_put_unchoose, wq_drop_put, wq_drop_drop, wq_drop_part, wq_drop_ahead, wq_drop_cut, wq_drop_choose, wq_drop_unchoose, wq_part_put, wq_part_drop, wq_part_part, wq_part_ahead, wq_part_cut, wq_part_choose, wq_part_unchoose, wq_ahead_put, wq_ahead_drop, wq_ahead_part, wq_ahead_ahead, wq_ahead_cut, wq_ahead_choose, wq_ahead_unchoose, wq_cut_put, wq_cut_drop, wq_cut_part, wq_cut_ahead, wq_cut_cut, wq_cut_choose, wq_cut_unchoose, wq_choose_put, wq_choose_drop, wq_choose_part, wq_choose_ahead, wq_choose_cut, wq_choose_choose, wq_choose_unchoose, wq_unchoose_put, wq_unchoose_drop, wq_unchoose_part, wq_unchoose_ahead, wq_unchoose_cut, wq_unchoose_choose, wq_unchoose_unchoose, wi_put_drop_unchoose, wi_drop_drop_unchoose, wi_part_drop_unchoose, wi_ahead_drop_unchoose, wi_cut_drop_unchoose, wi_choose_drop_unchoose, wi_unchoose_drop_unchoose, wi_put_choose_unchoose, wi_drop_choose_unchoose, wi_part_choose_unchoose, wi_ahead_choose_unchoose, wi_cut_choose_unchoose, wi_choose_choose_unchoose, wi_unchoose_choose_unchoose, wi_put_put_drop, wi_drop_put_drop, wi_part_put_drop, wi_ahead_put_drop, wi_cut_put_drop, wi_choose_put_drop, wi_unchoose_put_drop, c59, e0, encE, uEq_int, hz, h1, h2, h3, h4, edS, optT, optE, hnv, hw, x1, x2, x3, x4, hsl, ix0, ix1, ix2, ix3, ixm4, ixm3]
                  rfl
            | _ => cases hli
end Pl
end
section
set_option maxRecDepth 100000
set_option maxHeartbeats 4000000
namespace Pl
open PySem Wy Core49
theorem lev_sub1 {v c : Va} {s : St} (h : sub1 v s = some c) : lev c ≤ lev v := by
  cases v with
  | lf l => cases s <;> cases h
  | rc1 n => cases s <;> cases h <;> simp [lev]
  | rc2 m n => cases s <;> cases h <;> simp [lev] <;> omega
  | cas l v => cases s <;> cases h <;> simp [lev]
  | lis vs => cases vs <;> cases s <;> cases h <;> simp [lev, levs] <;> omega
theorem lev_part : ∀ {p : List St} {v c : Va}, part v p = some c → lev c ≤ lev v
  | [], v, c, h => by cases h; exact Nat.le_refl _
  | s :: p, v, c, h => by
    rw [part_cons] at h
    cases hs : sub1 v s with
    | none => rw [hs] at h; cases h
    | some e => rw [hs] at h; exact Nat.le_trans (lev_part h) (lev_sub1 hs)
theorem newV_some {t t' : Stt} {e : Ed} {n : Nm} {f : Va → Stt} (h : (newV t.s e).map f = some t') : ∃ w, newV t.s e = some w ∧ t' = f w := by
  cases h2 : newV t.s e with
  | none => rw [h2] at h; cases h
  | some w => rw [h2] at h; exact ⟨w, rfl, (Option.some.inj h).symm⟩
theorem get_set_self (s : V5) (n : Nm) (o : Option Va) : (s.set n o).get n = o := by cases n <;> rfl
theorem set_same {s : V5} {n : Nm} {o : Option Va} (h : s.get n = o) : s.set n o = s := by subst h; exact V5.set_get s n
theorem set_same2 {s : S2} {n : Cm} {o : Option Nat} (h : s.get n = o) : s.set n o = s := by subst h; exact S2.set_get s n
theorem back_ed {t t' : Stt} {e : Ed} (h : edS t e = some t') : edS t' (backS t e) = some t := by
  cases e with
  | put n v =>
    cases h
    cases hg : t.s.get n with
    | none => simp [backS, hg, edS, get_set_self, V5.set_set, set_same hg]
    | some x => simp [backS, hg, edS, V5.set_set, set_same hg]
  | drop n =>
    simp only [edS] at h
    cases hg : t.s.get n with
    | none => rw [hg] at h; cases h
    | some x =>
      rw [hg] at h; cases h
      simp [backS, hg, edS, V5.set_set, set_same hg]
  | dropz => cases h
  | choose m i =>
    cases h
    cases hg : t.c.get m with
    | none => simp [backS, hg, edS, S2.get_set, S2.set_set, set_same2 hg]
    | some x => simp [backS, hg, edS, S2.set_set, set_same2 hg]
  | unch m =>
    simp only [edS] at h
    cases hg : t.c.get m with
    | none => rw [hg] at h; cases h
    | some x =>
      rw [hg] at h; cases h
      simp [backS, hg, edS, S2.set_set, set_same2 hg]
  | part n p v =>
    obtain ⟨w, hw, rfl⟩ := newV_some (n := n) h
    obtain ⟨here, c, q1, q2, q3⟩ := newV_part hw
    have h1 := wth_back q3 q2
    simp [backS, q1, q2, edS, newV, get_set_self, h1, V5.set_set, set_same q1]
  | ahead n p v =>
    obtain ⟨w, hw, rfl⟩ := newV_some (n := n) h
    obtain ⟨here, c, q1, q2, q3⟩ := newV_ahead hw
    have h1 := wth_back q3 q2
    have h2 := part_wth q3
    simp [backS, edS, newV, get_set_self, h1, h2, V5.set_set, set_same q1]
  | cut n p =>
    obtain ⟨w, hw, rfl⟩ := newV_some (n := n) h
    obtain ⟨here, x, c, q1, q2, q3⟩ := newV_cut hw
    have h1 := wth_back q3 q2
    have h2 := part_wth q3
    simp [backS, q1, q2, edS, newV, get_set_self, h1, h2, V5.set_set, set_same q1]
theorem good_back {t t' : Stt} {e : Ed} (g : Good t e) (h : edS t e = some t') : Good t' (backS t e) := by
  refine ⟨g.r t' h, fun v hv => ?_, ?_, fun t2 h2 => ?_⟩
  · cases e with
    | put n v2 =>
      cases hg : t.s.get n with
      | none => simp [backS, hg, valOf] at hv
      | some x => simp [backS, hg, valOf] at hv; subst hv; exact g.ok n _ hg
    | drop n =>
      cases hg : t.s.get n with
      | none => simp [backS, hg, valOf] at hv
      | some x => simp [backS, hg, valOf] at hv; subst hv; exact g.ok n _ hg
    | dropz => cases hv
    | choose m i => cases hg : t.c.get m <;> simp [backS, hg, valOf] at hv
    | unch m => cases hg : t.c.get m <;> simp [backS, hg, valOf] at hv
    | part n p v2 =>
      obtain ⟨w, hw, rfl⟩ := newV_some (n := n) h
      obtain ⟨here, c, q1, q2, q3⟩ := newV_part hw
      simp [backS, q1, q2, valOf] at hv
      subst hv
      have := g.ok n _ q1
      exact ⟨Nat.le_trans (nod_part q2) this.1, Nat.le_trans (lev_part q2) this.2⟩
    | ahead n p v2 => cases hv
    | cut n p =>
      obtain ⟨w, hw, rfl⟩ := newV_some (n := n) h
      obtain ⟨here, x, c, q1, q2, q3⟩ := newV_cut hw
      simp [backS, q1, q2, valOf] at hv
      subst hv
      have := g.ok n _ q1
      have h1 := nod_part q2
      have h2 := lev_part q2
      simp [nod, nods, lev, levs] at h1 h2
      exact ⟨by omega, by omega⟩
  · cases e with
    | put n v2 => cases hg : t.s.get n <;> simp [backS, hg, pathOf]
    | drop n => cases hg : t.s.get n <;> simp [backS, hg, pathOf]
    | dropz => simp [backS, pathOf]
    | choose m i => cases hg : t.c.get m <;> simp [backS, hg, pathOf]
    | unch m => cases hg : t.c.get m <;> simp [backS, hg, pathOf]
    | part n p v2 =>
      have := g.p
      simp only [backS]
      split <;> simp_all [pathOf]
    | ahead n p v2 => exact g.p
    | cut n p =>
      have := g.p
      simp only [backS]
      split <;> simp_all [pathOf]
  · rw [back_ed h] at h2
    cases h2
    exact g.ok
theorem law_back_ok (t t' : Stt) (e : Ed) (S : Sto) (h : edS t e = some t') : Ev 3 60 [encT t, encE e] S (some (.ok (encE (backS t e)), S)) := by
  refine Ev.body (k := 2) (c := c60) (ρ := [.v (encT t), .v (encE e), .nil, .nil, .nil, .nil, .nil, .nil, .nil]) rfl rfl rfl fun d hd => ?_
  have e0 : encT t = .tup [encV t.s, enc2 t.c] := rfl
  cases e with
  | put n v =>
    have h1 := found_ok t.s n S d (by omega)
    cases hg : t.s.get n with
    | none => rw [hg] at h1; simp [endU, evL_disp, exB, exS, evE, evEs, evO, evT, evP, evAnd, evOr, bindE, bindO, optO, pureO, nxS, optS, slotU, slotP, asB, asI, line, setTg, tup2, ownOf, appU, frzU, uIdx, seqOf, L2.atI, L2.ixN, isiU, uc_eq, uc_ne, uc_gt, uc_lt, uc_le, uc_ge, ul_tup, ul_lst, isNonU_non, isNonU_tup, isNonU_int, isNonU_enc, wq_put_put, wq_put_drop, wq_put_part, wq_put_ahead, wq_put_cut, wq_put_choose, wq_put_unchoose, wq_drop_put, wq_drop_drop, wq_drop_part, wq_drop_ahead, wq_drop_cut, wq_drop_choose, wq_drop_unchoose, wq_part_put, wq_part_drop, wq_part_part, wq_part_ahead, wq_part_cut, wq_part_choose, wq_part_unchoose, wq_ahead_put, wq_ahead_drop, wq_ahead_part, wq_ahead_ahead, wq_ahead_cut, wq_ahead_choose, wq_ahead_unchoose, wq_cut_put, wq_cut_drop, wq_cut_part, wq_cut_ahead, wq_cut_cut, wq_cut_choose, wq_cut_unchoose, wq_choose_put, wq_choose_drop, wq_choose_part, wq_choose_ahead, wq_choose_cut, wq_choose_choose, wq_choose_unchoose, wq_unchoose_put, wq_unchoose_drop, wq_unchoose_part, wq_unchoose_ahead, wq_unchoose_cut, wq_unchoose_choose, wq_unchoose_unchoose, wi_put_drop_unchoose, wi_drop_drop_unchoose, wi_part_drop_unchoose, wi_ahead_drop_unchoose, wi_cut_drop_unchoose, wi_choose_drop_unchoose, wi_unchoose_drop_unchoose, wi_put_choose_unchoose, wi_drop_choose_unchoose, wi_part_choose_unchoose, wi_ahead_choose_unchoose, wi_cut_choose_unchoose, wi_choose_choose_unchoose, wi_unchoose_choose_unchoose, wi_put_put_drop, wi_drop_put_drop, wi_part_put_drop, wi_ahead_put_drop, wi_cut_put_drop, wi_choose_put_drop, wi_unchoose_put_drop, c60, e0, encE, h1, backS, optE, hg]
    | some x => rw [hg] at h1; simp [endU, evL_disp, exB, exS, evE, evEs, evO, evT, evP, evAnd, evOr, bindE, bindO, optO, pureO, nxS, optS, slotU, slotP, asB, asI, line, setTg, tup2, ownOf, appU, frzU, uIdx, seqOf, L2.atI, L2.ixN, isiU, uc_eq, uc_ne, uc_gt, uc_lt, uc_le, uc_ge, ul_tup, ul_lst, isNonU_non, isNonU_tup, isNonU_int, isNonU_enc, wq_put_put, wq_put_drop, wq_put_part, wq_put_ahead, wq_put_cut, wq_put_choose, wq_put_unchoose, wq_drop_put, wq_drop_drop, wq_drop_part, wq_drop_ahead, wq_drop_cut, wq_drop_choose, wq_drop_unchoose, wq_part_put, wq_part_drop, wq_part_part, wq_part_ahead, wq_part_cut, wq_part_choose, wq_part_unchoose, wq_ahead_put, wq_ahead_drop, wq_ahead_part, wq_ahead_ahead, wq_ahead_cut, wq_ahead_choose, wq_ahead_unchoose, wq_cut_put, wq_cut_drop, wq_cut_part, wq_cut_ahead, wq_cut_cut, wq_cut_choose, wq_cut_unchoose, wq_choose_put, wq_choose_drop, wq_choose_part, wq_choose_ahead, wq_choose_cut, wq_choose_choose, wq_choose_unchoose, wq_unchoose_put, wq_unchoose_drop, wq_unchoose_part, wq_unchoose_ahead, wq_unchoose_cut, wq_unchoose_choose, wq_unchoose_unchoose, wi_put_drop_unchoose, wi_drop_drop_unchoose, wi_part_drop_unchoose, wi_ahead_drop_unchoose, wi_cut_drop_unchoose, wi_choose_drop_unchoose, wi_unchoose_drop_unchoose, wi_put_choose_unchoose, wi_drop_choose_unchoose, wi_part_choose_unchoose, wi_ahead_choose_unchoose, wi_cut_choose_unchoose, wi_choose_choose_unchoose, wi_unchoose_choose_unchoose, wi_put_put_drop, wi_drop_put_drop, wi_part_put_drop, wi_ahead_put_drop, wi_cut_put_drop, wi_choose_put_drop, wi_unchoose_put_drop, c60, e0, encE, h1, backS, optE, hg]
  | drop n =>
    have h1 := found_ok t.s n S d (by omega)
    cases hg : t.s.get n with
    | none => rw [hg] at h1; simp [endU, evL_disp, exB, exS, evE, evEs, evO, evT, evP, evAnd, evOr, bindE, bindO, optO, pureO, nxS, optS, slotU, slotP, asB, asI, line, setTg, tup2, ownOf, appU, frzU, uIdx, seqOf, L2.atI, L2.ixN, isiU, uc_eq, uc_ne, uc_gt, uc_lt, uc_le, uc_ge, ul_tup, ul_lst, isNonU_non, isNonU_tup, isNonU_int, isNonU_enc, wq_put_put, wq_put_drop, wq_put_part, wq_put_ahead, wq_put_cut, wq_put_choose, wq_put_unchoose, wq_drop_put, wq_drop_drop, wq_drop_part, wq_drop_ahead, wq_drop_cut, wq_drop_choose, wq_drop_unchoose, wq_part_put, wq_part_drop, wq_part_part, wq_part_ahead, wq_part_cut, wq_part_choose, wq_part_unchoose, wq_ahead_put, wq_ahead_drop, wq_ahead_part, wq_ahead_ahead, wq_ahead_cut, wq_ahead_choose, wq_ahead_unchoose, wq_cut_put, wq_cut_drop, wq_cut_part, wq_cut_ahead, wq_cut_cut, wq_cut_choose, wq_cut_unchoose, wq_choose_put, wq_choose_drop, wq_choose_part, wq_choose_ahead, wq_choose_cut, wq_choose_choose, wq_choose_unchoose, wq_unchoose_put, wq_unchoose_drop, wq_unchoose_part, wq_unchoose_ahead, wq_unchoose_cut, wq_unchoose_choose, wq_unchoose_unchoose, wi_put_drop_unchoose, wi_drop_drop_unchoose, wi_part_drop_unchoose, wi_ahead_drop_unchoose, wi_cut_drop_unchoose, wi_choose_drop_unchoose, wi_unchoose_drop_unchoose, wi_put_choose_unchoose, wi_drop_choose_unchoose, wi_part_choose_unchoose, wi_ahead_choose_unchoose, wi_cut_choose_unchoose, wi_choose_choose_unchoose, wi_unchoose_choose_unchoose, wi_put_put_drop, wi_drop_put_drop, wi_part_put_drop, wi_ahead_put_drop, wi_cut_put_drop, wi_choose_put_drop, wi_unchoose_put_drop, c60, e0, encE, h1, backS, optE, hg]
    | some x => rw [hg] at h1; simp [endU, evL_disp, exB, exS, evE, evEs, evO, evT, evP, evAnd, evOr, bindE, bindO, optO, pureO, nxS, optS, slotU, slotP, asB, asI, line, setTg, tup2, ownOf, appU, frzU, uIdx, seqOf, L2.atI, L2.ixN, isiU, uc_eq, uc_ne, uc_gt, uc_lt, uc_le, uc_ge, ul_tup, ul_lst, isNonU_non, isNonU_tup, isNonU_int, isNonU_enc, wq_put_put, wq_put_drop, wq_put_part, wq_put_ahead, wq_put_cut, wq_put_choose, wq_put_unchoose, wq_drop_put, wq_drop_drop, wq_drop_part, wq_drop_ahead, wq_drop_cut, wq_drop_choose, wq_drop_unchoose, wq_part_put, wq_part_drop, wq_part_part, wq_part_ahead, wq_part_cut, wq_part_choose, wq_part_unchoose, wq_ahead_put, wq_ahead_drop, wq_ahead_part, wq_ahead_ahead, wq_ahead_cut, wq_ahead_choose, wq_ahead_unchoose, wq_cut_put, wq_cut_drop, wq_cut_part, wq_cut_ahead, wq_cut_cut, wq_cut_choose, wq_cut_unchoose, wq_choose_put, wq_choose_drop, wq_choose_part, wq_choose_ahead, wq_choose_cut, wq_choose_choose, wq_choose_unchoose, wq_unchoose_put, wq_unchoose_drop, wq_unchoose_part, wq_unchoose_ahead, wq_unchoose_cut, wq_unchoose_choose, wq_unchoose_unchoose, wi_put_drop_unchoose, wi_drop_drop_unchoose, wi_part_drop_unchoose, wi_ahead_drop_unchoose, wi_cut_drop_unchoose, wi_choose_drop_unchoose, wi_unchoose_drop_unchoose, wi_put_choose_unchoose, wi_drop_choose_unchoose, wi_part_choose_unchoose, wi_ahead_choose_unchoose, wi_cut_choose_unchoose, wi_choose_choose_unchoose, wi_unchoose_choose_unchoose, wi_put_put_drop, wi_drop_put_drop, wi_part_put_drop, wi_ahead_put_drop, wi_cut_put_drop, wi_choose_put_drop, wi_unchoose_put_drop, c60, e0, encE, h1, backS, optE, hg]
  | dropz => cases h
  | choose m i =>
    have h1 := found2 t.c m S d (by omega)
    cases hg : t.c.get m with
    | none => rw [hg] at h1; simp [endU, evL_disp, exB, exS, evE, evEs, evO, evT, evP, evAnd, evOr, bindE, bindO, optO, pureO, nxS, optS, slotU, slotP, asB, asI, line, setTg, tup2, ownOf, appU, frzU, uIdx, seqOf, L2.atI, L2.ixN, isiU, uc_eq, uc_ne, uc_gt, uc_lt, uc_le, uc_ge, ul_tup, ul_lst, isNonU_non, isNonU_tup, isNonU_int, isNonU_enc, wq_put_put, wq_put_drop, wq_put_part, wq_put_ahead, wq_put_cut, wq_put_choose, wq_put_unchoose, wq_drop_put, wq_drop_drop, wq_drop_part, wq_drop_ahead, wq_drop_cut, wq_drop_choose, wq_drop_unchoose, wq_part_put, wq_part_drop, wq_part_part, wq_part_ahead, wq_part_cut, wq_part_choose, wq_part_unchoose, wq_ahead_put, wq_ahead_drop, wq_ahead_part, wq_ahead_ahead, wq_ahead_cut, wq_ahead_choose, wq_ahead_unchoose, wq_cut_put, wq_cut_drop, wq_cut_part, wq_cut_ahead, wq_cut_cut, wq_cut_choose, wq_cut_unchoose, wq_choose_put, wq_choose_drop, wq_choose_part, wq_choose_ahead, wq_choose_cut, wq_choose_choose, wq_choose_unchoose, wq_unchoose_put, wq_unchoose_drop, wq_unchoose_part, wq_unchoose_ahead, wq_unchoose_cut, wq_unchoose_choose, wq_unchoose_unchoose, wi_put_drop_unchoose, wi_drop_drop_unchoose, wi_part_drop_unchoose, wi_ahead_drop_unchoose, wi_cut_drop_unchoose, wi_choose_drop_unchoose, wi_unchoose_drop_unchoose, wi_put_choose_unchoose, wi_drop_choose_unchoose, wi_part_choose_unchoose, wi_ahead_choose_unchoose, wi_cut_choose_unchoose, wi_choose_choose_unchoose, wi_unchoose_choose_unchoose, wi_put_put_drop, wi_drop_put_drop, wi_part_put_drop, wi_ahead_put_drop, wi_cut_put_drop, wi_choose_put_drop, wi_unchoose_put_drop, c60, e0, encE, h1, backS, optN, hg]
    | some x => rw [hg] at h1; simp [endU, evL_disp, exB, exS, evE, evEs, evO, evT, evP, evAnd, evOr, bindE, bindO, optO, pureO, nxS, optS, slotU, slotP, asB, asI, line, setTg, tup2, ownOf, appU, frzU, uIdx, seqOf, L2.atI, L2.ixN, isiU, uc_eq, uc_ne, uc_gt, uc_lt, uc_le, uc_ge, ul_tup, ul_lst, isNonU_non, isNonU_tup, isNonU_int, isNonU_enc, wq_put_put, wq_put_drop, wq_put_part, wq_put_ahead, wq_put_cut, wq_put_choose, wq_put_unchoose, wq_drop_put, wq_drop_drop, wq_drop_part, wq_drop_ahead, wq_drop_cut, wq_drop_choose, wq_drop_unchoose, wq_part_put, wq_part_drop, wq_part_part, wq_part_ahead, wq_part_cut, wq_part_choose, wq_part_unchoose, wq_ahead_put, wq_ahead_drop, wq_ahead_part, wq_ahead_ahead, wq_ahead_cut, wq_ahead_choose, wq_ahead_unchoose, wq_cut_put, wq_cut_drop, wq_cut_part, wq_cut_ahead, wq_cut_cut, wq_cut_choose, wq_cut_unchoose, wq_choose_put, wq_choose_drop, wq_choose_part, wq_choose_ahead, wq_choose_cut, wq_choose_choose, wq_choose_unchoose, wq_unchoose_put, wq_unchoose_drop, wq_unchoose_part, wq_unchoose_ahead, wq_unchoose_cut, wq_unchoose_choose, wq_unchoose_unchoose, wi_put_drop_unchoose, wi_drop_drop_unchoose, wi_part_drop_unchoose, wi_ahead_drop_unchoose, wi_cut_drop_unchoose, wi_choose_drop_unchoose, wi_unchoose_drop_unchoose, wi_put_choose_unchoose, wi_drop_choose_unchoose, wi_part_choose_unchoose, wi_ahead_choose_unchoose, wi_cut_choose_unchoose, wi_choose_choose_unchoose, wi_unchoose_choose_unchoose, wi_put_put_drop, wi_drop_put_drop, wi_part_put_drop, wi_ahead_put_drop, wi_cut_put_drop, wi_choose_put_drop, wi_unchoose_put_drop, c60, e0, encE, h1, backS, optN, hg]
  | unch m =>
    have h1 := found2 t.c m S d (by omega)
    cases hg : t.c.get m with
    | none => rw [hg] at h1; simp [endU, evL_disp, exB, exS, evE, evEs, evO, evT, evP, evAnd, evOr, bindE, bindO, optO, pureO, nxS, optS, slotU, slotP, asB, asI, line, setTg, tup2, ownOf, appU, frzU, uIdx, seqOf, L2.atI, L2.ixN, isiU, uc_eq, uc_ne, uc_gt, uc_lt, uc_le, uc_ge, ul_tup, ul_lst, isNonU_non, isNonU_tup, isNonU_int, isNonU_enc, wq_put_put, wq_put_drop, wq_put_part, wq_put_ahead, wq_put_cut, wq_put_choose, wq_put_unchoose, wq_drop_put, wq_drop_drop, wq_drop_part, wq_drop_ahead, wq_drop_cut, wq_drop_choose, wq_drop_unchoose, wq_part_put, wq_part_drop, wq_part_part, wq_part_ahead, wq_part_cut, wq_part_choose, wq_part_unchoose, wq_ahead_put, wq_ahead_drop, wq_ahead_part, wq_ahead_ahead, wq_ahead_cut, wq_ahead_choose, wq_ahead_unchoose, wq_cut_put, wq_cut_drop, wq_cut_part, wq_cut_ahead, wq_cut_cut, wq_cut_choose, wq_cut_unchoose, wq_choose_put, wq_choose_drop, wq_choose_part, wq_choose_ahead, wq_choose_cut, wq_choose_choose, wq_choose_unchoose, wq_unchoose_put, wq_unchoose_drop, wq_unchoose_part, wq_unchoose_ahead, wq_unchoose_cut, wq_unchoose_choose, wq_unchoose_unchoose, wi_put_drop_unchoose, wi_drop_drop_unchoose, wi_part_drop_unchoose, wi_ahead_drop_unchoose, wi_cut_drop_unchoose, wi_choose_drop_unchoose, wi_unchoose_drop_unchoose, wi_put_choose_unchoose, wi_drop_choose_unchoose, wi_part_choose_unchoose, wi_ahead_choose_unchoose, wi_cut_choose_unchoose, wi_choose_choose_unchoose, wi_unchoose_choose_unchoose, wi_put_put_drop, wi_drop_put_drop, wi_part_put_drop, wi_ahead_put_drop, wi_cut_put_drop, wi_choose_put_drop, wi_unchoose_put_drop, c60, e0, encE, h1, backS, optN, hg]
    | some x => rw [hg] at h1; simp [endU, evL_disp, exB, exS, evE, evEs, evO, evT, evP, evAnd, evOr, bindE, bindO, optO, pureO, nxS, optS, slotU, slotP, asB, asI, line, setTg, tup2, ownOf, appU, frzU, uIdx, seqOf, L2.atI, L2.ixN, isiU, uc_eq, uc_ne, uc_gt, uc_lt, uc_le, uc_ge, ul_tup, ul_lst, isNonU_non, isNonU_tup, isNonU_int, isNonU_enc, wq_put_put, wq_put_drop, wq_put_part, wq_put_ahead, wq_put_cut, wq_put_choose, wq_put_unchoose, wq_drop_put, wq_drop_drop, wq_drop_part, wq_drop_ahead, wq_drop_cut, wq_drop_choose, wq_drop_unchoose, wq_part_put, wq_part_drop, wq_part_part, wq_part_ahead, wq_part_cut, wq_part_choose, wq_part_unchoose, wq_ahead_put, wq_ahead_drop, wq_ahead_part, wq_ahead_ahead, wq_ahead_cut, wq_ahead_choose, wq_ahead_unchoose, wq_cut_put, wq_cut_drop, wq_cut_part, wq_cut_ahead, wq_cut_cut, wq_cut_choose, wq_cut_unchoose, wq_choose_put, wq_choose_drop, wq_choose_part, wq_choose_ahead, wq_choose_cut, wq_choose_choose, wq_choose_unchoose, wq_unchoose_put, wq_unchoose_drop, wq_unchoose_part, wq_unchoose_ahead, wq_unchoose_cut, wq_unchoose_choose, wq_unchoose_unchoose, wi_put_drop_unchoose, wi_drop_drop_unchoose, wi_part_drop_unchoose, wi_ahead_drop_unchoose, wi_cut_drop_unchoose, wi_choose_drop_unchoose, wi_unchoose_drop_unchoose, wi_put_choose_unchoose, wi_drop_choose_unchoose, wi_part_choose_unchoose, wi_ahead_choose_unchoose, wi_cut_choose_unchoose, wi_choose_choose_unchoose, wi_unchoose_choose_unchoose, wi_put_put_drop, wi_drop_put_drop, wi_part_put_drop, wi_ahead_put_drop, wi_cut_put_drop, wi_choose_put_drop, wi_unchoose_put_drop, c60, e0, encE, h1, backS, optN, hg]
  | part n p v =>
    obtain ⟨w, hw, rfl⟩ := newV_some (n := n) h
    obtain ⟨here, c, q1, q2, q3⟩ := newV_part hw
    have h1 := found_ok t.s n S d (by omega)
    have h2 := (Ev.of fun d => law_part_ok d S here p) d (by omega)
    rw [q1] at h1
    rw [q2] at h2
    simp [endU, evL_disp, exB, exS, evE, evEs, evO, evT, evP, evAnd, evOr, bindE, bindO, optO, pureO, nxS, optS, slotU, slotP, asB, asI, line, setTg, tup2, ownOf, appU, frzU, uIdx, seqOf, L2.atI, L2.ixN, isiU, uc_eq, uc_ne, uc_gt, uc_lt, uc_le, uc_ge, ul_tup, ul_lst, isNonU_non, isNonU_tup, isNonU_int, isNonU_enc, wq_put_put, wq_put_drop, wq_put_part, wq_put_ahead, wq_put_cut, wq_put_choose, wq_put_unchoose, wq_drop_put, wq_drop_drop, wq_drop_part, wq_drop_ahead, wq_drop_cut, wq_drop_choose, wq_drop_unchoose, wq_part_put, wq_part_drop, wq_part_part, wq_part_ahead, wq_part_cut, wq_part_choose, wq_part_unchoose, wq_ahead_put, wq_ahead_drop, wq_ahead_part, wq_ahead_ahead, wq_ahead_cut, wq_ahead_choose, wq_ahead_unchoose, wq_cut_put, wq_cut_drop, wq_cut_part, wq_cut_ahead, wq_cut_cut, wq_cut_choose, wq_cut_unchoose, wq_choose_put, wq_choose_drop, wq_choose_part, wq_choose_ahead, wq_choose_cut, wq_choose_choose, wq_choose_unchoose, wq_unchoose_put, wq_unchoose_drop, wq_unchoose_part, wq_unchoose_ahead, wq_unchoose_cut, wq_unchoose_choose, wq_unchoose_unchoose, wi_put_drop_unchoose, wi_drop_drop_unchoose, wi_part_drop_unchoose, wi_ahead_drop_unchoose, wi_cut_drop_unchoose, wi_choose_drop_unchoose, wi_unchoose_drop_unchoose, wi_put_choose_unchoose, wi_drop_choose_unchoose, wi_part_choose_unchoose, wi_ahead_choose_unchoose, wi_cut_choose_unchoose, wi_choose_choose_unchoose, wi_unchoose_choose_unchoose, wi_put_put_drop, wi_drop_put_drop, wi_part_put_drop, wi_ahead_put_drop, wi_cut_put_drop, wi_choose_put_drop, wi_unchoose_put_drop, c60, e0, encE, h1, h2, backS, optE, q1, q2]
  | ahead n p v =>
    obtain ⟨w, hw, rfl⟩ := newV_some (n := n) h
    obtain ⟨here, c, q1, q2, q3⟩ := newV_ahead hw
    have h1 := found_ok t.s n S d (by omega)
    have h2 := (Ev.of fun d => law_part_ok d S here p) d (by omega)
    rw [q1] at h1
    rw [q2] at h2
    simp [endU, evL_disp, exB, exS, evE, evEs, evO, evT, evP, evAnd, evOr, bindE, bindO, optO, pureO, nxS, optS, slotU, slotP, asB, asI, line, setTg, tup2, ownOf, appU, frzU, uIdx, seqOf, L2.atI, L2.ixN, isiU, uc_eq, uc_ne, uc_gt, uc_lt, uc_le, uc_ge, ul_tup, ul_lst, isNonU_non, isNonU_tup, isNonU_int, isNonU_enc, wq_put_put, wq_put_drop, wq_put_part, wq_put_ahead, wq_put_cut, wq_put_choose, wq_put_unchoose, wq_drop_put, wq_drop_drop, wq_drop_part, wq_drop_ahead, wq_drop_cut, wq_drop_choose, wq_drop_unchoose, wq_part_put, wq_part_drop, wq_part_part, wq_part_ahead, wq_part_cut, wq_part_choose, wq_part_unchoose, wq_ahead_put, wq_ahead_drop, wq_ahead_part, wq_ahead_ahead, wq_ahead_cut, wq_ahead_choose, wq_ahead_unchoose, wq_cut_put, wq_cut_drop, wq_cut_part, wq_cut_ahead, wq_cut_cut, wq_cut_choose, wq_cut_unchoose, wq_choose_put, wq_choose_drop, wq_choose_part, wq_choose_ahead, wq_choose_cut, wq_choose_choose, wq_choose_unchoose, wq_unchoose_put, wq_unchoose_drop, wq_unchoose_part, wq_unchoose_ahead, wq_unchoose_cut, wq_unchoose_choose, wq_unchoose_unchoose, wi_put_drop_unchoose, wi_drop_drop_unchoose, wi_part_drop_unchoose, wi_ahead_drop_unchoose, wi_cut_drop_unchoose, wi_choose_drop_unchoose, wi_unchoose_drop_unchoose, wi_put_choose_unchoose, wi_drop_choose_unchoose, wi_part_choose_unchoose, wi_ahead_choose_unchoose, wi_cut_choose_unchoose, wi_choose_choose_unchoose, wi_unchoose_choose_unchoose, wi_put_put_drop, wi_drop_put_drop, wi_part_put_drop, wi_ahead_put_drop, wi_cut_put_drop, wi_choose_put_drop, wi_unchoose_put_drop, c60, e0, encE, h1, h2, backS, optE, q1, q2]
  | cut n p =>
    obtain ⟨w, hw, rfl⟩ := newV_some (n := n) h
    obtain ⟨here, x, vs, q1, q2, q3⟩ := newV_cut hw
    have h1 := found_ok t.s n S d (by omega)
    have h2 := (Ev.of fun d => law_part_ok d S here p) d (by omega)
    rw [q1] at h1
    rw [q2] at h2
    have x4 : uIdx S (enc (.lis (.cons x vs))) (.int 1) = some (.tup (encs (.cons x vs))) := rfl
    have x5 : uIdx S (.tup (encs (.cons x vs))) (.int 0) = some (enc x) := ix0 _ _ _
    simp [endU, evL_disp, exB, exS, evE, evEs, evO, evT, evP, evAnd, evOr, bindE, bindO, optO, pureO, nxS, optS, slotU, slotP, asB, asI, line, setTg, tup2, uc_eq, uc_ne, isNonU_non, isNonU_enc, wq_put_put, wq_put_drop, wq_put_part, wq_put_ahead, wq_put_cut, wq_put_choose, wq_put_unchoose, wq_drop_put, wq_drop_drop, wq_drop_part, wq_drop_ahead, wq_drop_cut, wq_drop_choose, wq_drop_unchoose, wq_part_put, wq_part_drop, wq_part_part, wq_part_ahead, wq_part_cut, wq_part_choose, wq_part_unchoose, wq_ahead_put, wq_ahead_drop, wq_ahead_part, wq_ahead_ahead, wq_ahead_cut, wq_ahead_choose, wq_ahead_unchoose, wq_cut_put, wq_cut_drop, wq_cut_part, wq_cut_ahead, wq_cut_cut, wq_cut_choose, wq_cut_unchoose, wq_choose_put, wq_choose_drop, wq_choose_part, wq_choose_ahead, wq_choose_cut, wq_choose_choose, wq_choose_unchoose, wq_unchoose_put, wq_unchoose_drop, wq_unchoose_part, wq_unchoose_ahead, wq_unchoose_cut, wq_unchoose_choose, wq_unchoose_unchoose, wi_put_drop_unchoose, wi_drop_drop_unchoose, wi_part_drop_unchoose, wi_ahead_drop_unchoose, wi_cut_drop_unchoose, wi_choose_drop_unchoose, wi_unchoose_drop_unchoose, wi_put_choose_unchoose, wi_drop_choose_unchoose, wi_part_choose_unchoose, wi_ahead_choose_unchoose, wi_cut_choose_unchoose, wi_choose_choose_unchoose, wi_unchoose_choose_unchoose, wi_put_put_drop, wi_drop_put_drop, wi_part_put_drop, wi_ahead_put_drop, wi_cut_put_drop, wi_choose_put_drop, wi_unchoose_put_drop, c60, e0, encE, h1, h2, backS, optE, q1, q2, x4, x5, ix0, ix1, ix2, ix3]
end Pl
end
section
set_option maxRecDepth 100000
set_option maxHeartbeats 4000000
namespace Pl
open PySem Wy Core49
abbrev HS (cells : List Int) (i big seed cnt : Int) : Sto := [cells.map .int, [.ref 0, .int i, .int big, .int seed, .int cnt]]
def HandOk (S : Sto) : Prop := ∃ cells i big seed cnt, S = HS cells i big seed cnt ∧ 0 ≤ i ∧ 0 ≤ big
theorem hx0 (cells : List Int) (i big seed cnt : Int) : uIdx (HS cells i big seed cnt) (.ref 1) (.int 0) = some (.ref 0) := rfl
theorem hx1 (cells : List Int) (i big seed cnt : Int) : uIdx (HS cells i big seed cnt) (.ref 1) (.int 1) = some (.int i) := rfl
theorem hx2 (cells : List Int) (i big seed cnt : Int) : uIdx (HS cells i big seed cnt) (.ref 1) (.int 2) = some (.int big) := rfl
theorem hx3 (cells : List Int) (i big seed cnt : Int) : uIdx (HS cells i big seed cnt) (.ref 1) (.int 3) = some (.int seed) := rfl
theorem hx4 (cells : List Int) (i big seed cnt : Int) : uIdx (HS cells i big seed cnt) (.ref 1) (.int 4) = some (.int cnt) := rfl
theorem hs1 (ρ : En) (cells : List Int) (i big seed cnt w : Int) : sidxM ρ (.ref 1) (.int 1) (.int w) (HS cells i big seed cnt) = some (.nx ρ, HS cells w big seed cnt) := rfl
theorem hs2 (ρ : En) (cells : List Int) (i big seed cnt w : Int) : sidxM ρ (.ref 1) (.int 2) (.int w) (HS cells i big seed cnt) = some (.nx ρ, HS cells i w seed cnt) := rfl
theorem hs3 (ρ : En) (cells : List Int) (i big seed cnt w : Int) : sidxM ρ (.ref 1) (.int 3) (.int w) (HS cells i big seed cnt) = some (.nx ρ, HS cells i big w cnt) := rfl
theorem hs4 (ρ : En) (cells : List Int) (i big seed cnt w : Int) : sidxM ρ (.ref 1) (.int 4) (.int w) (HS cells i big seed cnt) = some (.nx ρ, HS cells i big seed w) := rfl
theorem hln (cells : List Int) (i big seed cnt : Int) : uBlt (HS cells i big seed cnt) .len (.ref 0) = some (.int cells.length) := by simp [uBlt, seqOf]
theorem hcell (cells : List Int) (i big seed cnt : Int) (h0 : 0 ≤ i) (h1 : i < cells.length) : ∃ c : Int, uIdx (HS cells i big seed cnt) (.ref 0) (.int i) = some (.int c) := by
  have h : i.toNat < cells.length := by omega
  refine ⟨cells[i.toNat], ?_⟩
  have h2 : i < (cells.map U.int).length := by simpa using h1
  show (L2.atI (cells.map U.int) i) = _
  unfold L2.atI L2.ixN
  rw [if_pos h0, if_pos h2]
  simp [h]
theorem ub_add (a b : Int) : uBin .add (.int a) (.int b) = some (.int (a + b)) := rfl
theorem ub_mod (a b : Int) (h : 0 < b) : uBin .mod (.int a) (.int b) = some (.int (a % b)) := by simp [uBin, h]
theorem ub_div (a b : Int) (h : 0 < b) (h2 : b < 1073741824) : uBin .fdiv (.int a) (.int b) = some (.int (a / b)) := by simp [uBin, h, h2]
theorem ub_mulr (a b : Int) (h : -(2 ^ 64) < b) (h2 : b < 2 ^ 64) : uBin .mul (.int a) (.int b) = some (.int (a * b)) := by
  show (if mulOk a b = true then _ else _) = _
  rw [if_pos]
  simp only [mulOk, Bool.or_eq_true, Bool.and_eq_true, decide_eq_true_eq]
  exact .inr ⟨h, h2⟩
theorem ub_mull (a b : Int) (h : -(2 ^ 64) < a) (h2 : a < 2 ^ 64) : uBin .mul (.int a) (.int b) = some (.int (a * b)) := by
  show (if mulOk a b = true then _ else _) = _
  rw [if_pos]
  simp only [mulOk, Bool.or_eq_true, Bool.and_eq_true, decide_eq_true_eq]
  exact .inl ⟨h, h2⟩
theorem ub_int (S : Sto) (a : Int) : uBlt S .int (.int a) = some (.int a) := rfl
theorem pow18 : uBin .pow (.int 10) (.int 18) = some (.int 1000000000000000000) := by kernel_rfl
def a49 : CS := match c49.body with
  | .cons a _ => a
  | _ => .pass
def b49 : CB := match c49.body with
  | .cons _ b => b
  | _ => .nil
theorem draw_a (cells : List Int) (i big seed cnt : Int) (hi : 0 ≤ i) (hb : 0 ≤ big) (m : U) :
    ∃ i' big' seed' e, 0 ≤ i' ∧ 0 ≤ big' ∧ ∀ fn, exS fn wdU a49 [.v (.ref 1), .v m, .nil, .nil, .nil] (HS cells i big seed cnt) = some (.nx [.v (.ref 1), .v m, .nil, e, .nil], HS cells i' big' seed' cnt) := by
  by_cases hz : big = 0 ∧ i < cells.length
  · obtain ⟨rfl, hl⟩ := hz
    obtain ⟨c, hc⟩ := hcell cells i 0 seed cnt hi hl
    have hl' : decide (i < (cells.length : Int)) = true := by simpa using hl
    have m1 := ub_mulr seed 69621 (by decide) (by decide)
    have m2 := ub_mulr c 48271 (by decide) (by decide)
    have m3 := ub_mod (seed * 69621 + c * 48271 + 17) 2147483629 (by decide)
    have hc2 : uIdx (HS cells (i + 1) 0 ((seed * 69621 + c * 48271 + 17) % 2147483629) cnt) (.ref 1) (.int 1) = some (.int (i + 1)) := rfl
    by_cases hg : 1000000000000000000 ≤ c
    · refine ⟨i + 1, c, (seed * 69621 + c * 48271 + 17) % 2147483629, .v (.int c), by omega, by omega, fun fn => ?_⟩
      simp [a49, c49, exB, exS, evE, evEs, evAnd, bindE, bindO, optO, pureO, nxS, slotU, asB, uc_eq, uc_lt, uc_ge, uEq_int, hx0, hx1, hx2, hx3, hln, hl, hc, ub_add, m1, m2, m3, ub_int, pow18, hs1, hs2, hs3, hg]
    · refine ⟨i + 1, 0, (seed * 69621 + c * 48271 + 17) % 2147483629, .v (.int c), by omega, by omega, fun fn => ?_⟩
      simp [a49, c49, exB, exS, evE, evEs, evAnd, bindE, bindO, optO, pureO, nxS, slotU, asB, uc_eq, uc_lt, uc_ge, uEq_int, hx0, hx1, hx2, hx3, hln, hl, hc, ub_add, m1, m2, m3, ub_int, pow18, hs1, hs2, hs3, hg]
  · refine ⟨i, big, seed, .nil, hi, hb, fun fn => ?_⟩
    by_cases h1 : big = 0
    · have h2 : ¬ i < cells.length := fun h => hz ⟨h1, h⟩
      simp [a49, c49, exB, exS, evE, evEs, evAnd, bindE, bindO, optO, pureO, nxS, slotU, asB, uc_eq, uc_lt, uEq_int, hx0, hx1, hx2, hln, h1, h2]
    · simp [a49, c49, exB, exS, evE, evEs, evAnd, bindE, bindO, optO, pureO, nxS, slotU, asB, uc_eq, uc_lt, uEq_int, hx0, hx1, hx2, hln, h1]
theorem draw_b (cells : List Int) (i big seed cnt many : Int) (hi : 0 ≤ i) (hb : 0 ≤ big) (h1 : 0 < many) (h2 : many < 1073741824) (e : Wy.Slot) :
    ∃ big' cnt' v, 0 ≤ big' ∧ 0 ≤ v ∧ v < many ∧ ∀ fn, endU (exB fn wdU b49 [.v (.ref 1), .v (.int many), .nil, e, .nil] (HS cells i big seed cnt)) = some (.ok (.int v), HS cells i big' seed cnt') := by
  by_cases hz : 0 < big
  · refine ⟨big / many, cnt, big % many, Int.ediv_nonneg hb (by omega), Int.emod_nonneg _ (by omega), Int.emod_lt_of_pos _ h1, fun fn => ?_⟩
    have m1 := ub_mod big many h1
    have m2 := ub_div big many h1 h2
    simp [endU, b49, c49, exB, exS, evE, evEs, evAnd, bindE, bindO, optO, pureO, nxS, slotU, asB, uc_gt, hx2, hz, m1, m2, ub_int, hs2]
  · let n0 : Int := ((seed + 7919 * (cnt + 1)) * 40692) % 2147483647
    let n1 : Int := (n0 * (n0 / 1009 + 69621)) % 2147483647
    let n2 : Int := (n1 * (n1 / 2003 + 40014)) % 2147483563
    have k0 : 0 ≤ n0 ∧ n0 < 2147483647 := ⟨Int.emod_nonneg _ (by decide), Int.emod_lt_of_pos _ (by decide)⟩
    have k1 : 0 ≤ n1 ∧ n1 < 2147483647 := ⟨Int.emod_nonneg _ (by decide), Int.emod_lt_of_pos _ (by decide)⟩
    refine ⟨big, cnt + 1, (n2 / 16) % many, hb, Int.emod_nonneg _ (by omega), Int.emod_lt_of_pos _ h1, fun fn => ?_⟩
    have m0 := ub_mull 7919 (cnt + 1) (by decide) (by decide)
    have m1 := ub_mulr (seed + 7919 * (cnt + 1)) 40692 (by decide) (by decide)
    have m2 := ub_mod ((seed + 7919 * (cnt + 1)) * 40692) 2147483647 (by decide)
    have m3 := ub_div n0 1009 (by decide) (by decide)
    have m4 := ub_mull n0 (n0 / 1009 + 69621) (by omega) (by omega)
    have m5 := ub_mod (n0 * (n0 / 1009 + 69621)) 2147483647 (by decide)
    have m6 := ub_div n1 2003 (by decide) (by decide)
    have m7 := ub_mull n1 (n1 / 2003 + 40014) (by omega) (by omega)
    have m8 := ub_mod (n1 * (n1 / 2003 + 40014)) 2147483563 (by decide)
    have m9 := ub_div n2 16 (by decide) (by decide)
    have m10 := ub_mod (n2 / 16) many h1
    simp only [endU, b49, c49, exB, exS, evE, evEs, evAnd, bindE, bindO, optO, pureO, nxS, slotU, asB, uc_gt, hx2, hx3, hx4, hz, ub_int, ub_add, hs4, List.getElem?_cons_zero, List.getElem?_cons_succ, Option.map_some, decide_false, List.set_cons_zero, List.set_cons_succ, m0, m1, m2]
    rw [show ((seed + 7919 * (cnt + 1)) * 40692) % 2147483647 = n0 from rfl]
    simp only [m3, m4, m5, bindO, bindE, ub_add, ub_int, List.getElem?_cons_zero, List.getElem?_cons_succ]
    rw [show (n0 * (n0 / 1009 + 69621)) % 2147483647 = n1 from rfl]
    simp only [m6, m7, m8, bindO, bindE, ub_add, ub_int, List.getElem?_cons_zero, List.getElem?_cons_succ]
    rw [show (n1 * (n1 / 2003 + 40014)) % 2147483563 = n2 from rfl]
    simp only [List.set_cons_zero, List.set_cons_succ, List.getElem?_cons_zero, List.getElem?_cons_succ, m9, m10, ub_int]
theorem draw_ok (many : Int) (h1 : 0 < many) (h2 : many < 1073741824) (S : Sto) (hS : HandOk S) : ∃ v S', HandOk S' ∧ 0 ≤ v ∧ v < many ∧ Ev 1 49 [.ref 1, .int many] S (some (.ok (.int v), S')) := by
  obtain ⟨cells, i, big, seed, cnt, rfl, hi, hb⟩ := hS
  obtain ⟨i', big', seed', e, hi', hb', ha⟩ := draw_a cells i big seed cnt hi hb (.int many)
  obtain ⟨big2, cnt2, v, hb2, hv, hv2, hbb⟩ := draw_b cells i' big' seed' cnt many hi' hb' h1 h2 e
  refine ⟨v, HS cells i' big2 seed' cnt2, ⟨cells, i', big2, seed', cnt2, rfl, hi', hb2⟩, hv, hv2, ?_⟩
  refine Ev.body (k := 0) (c := c49) (ρ := [.v (.ref 1), .v (.int many), .nil, .nil, .nil]) rfl rfl rfl fun d hd => ?_
  rw [show c49.body = .cons a49 b49 from rfl]
  unfold exB
  rw [ha]
  exact hbb _
end Pl
end
section
set_option maxRecDepth 100000
set_option maxHeartbeats 4000000
namespace Pl
open PySem Wy Core49
theorem any_lst (xs : List U) (h : xs ≠ []) (hl : xs.length < 1073741824) (S : Sto) (hS : HandOk S) : ∃ x S', x ∈ xs ∧ HandOk S' ∧ Ev 2 50 [.ref 1, .lst xs] S (some (.ok x, S')) := by
  have hp : 0 < xs.length := List.length_pos_iff.mpr h
  obtain ⟨v, S', h1, h2, h3, h4⟩ := draw_ok xs.length (by omega) (by omega) S hS
  have hv : v.toNat < xs.length := by omega
  refine ⟨xs[v.toNat], S', List.getElem_mem _, h1, ?_⟩
  refine Ev.body (k := 1) (c := c50) (ρ := [.v (.ref 1), .v (.lst xs)]) rfl rfl rfl fun d hd => ?_
  have h4 := h4 d hd
  have h5 : uIdx S' (.lst xs) (.int v) = some xs[v.toNat] := by
    show L2.atI xs v = _
    unfold L2.atI L2.ixN
    rw [if_pos h2, if_pos h3]
    simp [hv]
  simp [endU, exB, exS, evE, evEs, bindE, bindO, optO, pureO, nxS, slotU, c50, ul_lst, h4, h5]
def leaves : List Lf := [.i0, .i1, .i2, .i5, .m4, .tt, .ff, .word, .non, .big]
theorem leaf_list (fn : Nat → List U → Sto → UM U) (ρ : En) (S : Sto) : evL fn wdU (.disp (.cons (.k (.int 0)) (.cons (.k (.int 1)) (.cons (.k (.int 2)) (.cons (.k (.int 5)) (.cons (.neg (.k (.int 4))) (.cons (.k (.bl true)) (.cons (.k (.bl false)) (.cons (.k (.str "word")) (.cons (.k (.str "")) (.cons (.bin .pow (.k (.int 10)) (.k (.int 17))) .nil))))))))))) ρ S = some (.ok (leaves.map encF), S) := by kernel_rfl
def nb : Nat → Nat
  | 0 => 1
  | d + 1 => 3 * nb d + 1
theorem nb_pos (d : Nat) : 1 ≤ nb d := by cases d <;> simp [nb]
theorem compL_hand {P : U → Prop} {ev : Nat → U → Sto → UM (Option U)} {k : Nat} : ∀ (xs : List U), (∀ x ∈ xs, ∀ S, HandOk S → ∃ u S', HandOk S' ∧ P u ∧ ∀ d, k ≤ d → ev d x S = some (.ok (some u), S')) → ∀ S, HandOk S →
    ∃ us S', HandOk S' ∧ us.length = xs.length ∧ (∀ u ∈ us, P u) ∧ ∀ d, k ≤ d → compL (ev d) xs S = some (.ok us, S')
  | [], _, S, hS => ⟨[], S, hS, rfl, (fun u hu => by cases hu), fun _ _ => rfl⟩
  | x :: xs, h, S, hS => by
    obtain ⟨u, S1, a1, a2, a3⟩ := h x List.mem_cons_self S hS
    obtain ⟨us, S2, b1, b2, b3, b4⟩ := compL_hand xs (fun y hy => h y (List.mem_cons_of_mem _ hy)) S1 a1
    refine ⟨u :: us, S2, b1, by simp [b2], fun y hy => ?_, fun d hd => ?_⟩
    · rcases List.mem_cons.mp hy with rfl | hy
      · exact a2
      · exact b3 y hy
    · simp only [compL, a3 d hd, b4 d hd]
theorem vs_of {L N : Nat} : ∀ us : List U, (∀ u ∈ us, ∃ v, u = enc v ∧ lev v ≤ L ∧ nod v ≤ N) → ∃ vs, us = encs vs ∧ levs vs ≤ max 1 L ∧ nods vs ≤ us.length * N
  | [], _ => ⟨.nil, rfl, by simp [levs]; omega, by simp [nods]⟩
  | u :: us, h => by
    obtain ⟨v, rfl, h1, h2⟩ := h u List.mem_cons_self
    obtain ⟨vs, rfl, h3, h4⟩ := vs_of us fun y hy => h y (List.mem_cons_of_mem _ hy)
    refine ⟨.cons v vs, rfl, by simp [levs]; omega, ?_⟩
    simp only [nods, List.length_cons]
    rw [Nat.add_mul]; omega
def mn : List U := [.str "m", .str "n"]
theorem value_draw : ∀ (D : Nat) (S : Sto), HandOk S → ∃ v S', HandOk S' ∧ lev v ≤ D + 1 ∧ nod v ≤ nb D ∧ Ev (D + 3) 51 [.ref 1, .int D] S (some (.ok (enc v), S')) := by
  intro D
  induction D with
  | zero =>
    intro S hS
    obtain ⟨k, S1, h1, h2, h3, h4⟩ := draw_ok 8 (by decide) (by decide) S hS
    obtain ⟨x, S2, hx, h5, h6⟩ := any_lst (leaves.map encF) (by simp [leaves]) (by decide) S1 h1
    obtain ⟨l, _, rfl⟩ := List.mem_map.mp hx
    refine ⟨.lf l, S2, h5, by simp [lev], by simp [nod, nb], ?_⟩
    refine Ev.body (k := 2) (c := c51) (ρ := [.v (.ref 1), .v (.int 0), .nil, .nil, .nil, .nil]) rfl rfl rfl fun d hd => ?_
    have h4 := h4 d (by omega)
    have h6 := h6 d (by omega)
    have hl := leaf_list (R d) [.v (.ref 1), .v (.int 0), .v (.int k), .nil, .nil, .nil] S1
    simp [endU, exB, exS, evE, evEs, evOr, bindE, bindO, optO, pureO, nxS, slotU, asB, c51, uc_eq, uEq_int, h4, hl, h6, enc]
  | succ D ih =>
    intro S hS
    obtain ⟨k, S1, h1, h2, h3, h4⟩ := draw_ok 8 (by decide) (by decide) S hS
    have hD : ¬ ((D : Int) + 1 = 0) := by omega
    have hsub : uBin .sub (.int ((D : Int) + 1)) (.int 1) = some (.int D) := by simp [uBin]
    have hbody : ∀ (r : UM U), (∀ d, D + 3 ≤ d → endU (exB (R d) wdU c51.body [.v (.ref 1), .v (.int ((D : Int) + 1)), .nil, .nil, .nil, .nil] S) = r) → Ev (D + 1 + 3) 51 [.ref 1, .int ((D + 1 : Nat) : Int)] S r := fun r h =>
      Ev.body (k := D + 3) (c := c51) (ρ := [.v (.ref 1), .v (.int ((D : Int) + 1)), .nil, .nil, .nil, .nil]) rfl rfl rfl h
    by_cases k4 : k < 4
    · obtain ⟨x, S2, hx, h5, h6⟩ := any_lst (leaves.map encF) (by simp [leaves]) (by decide) S1 h1
      obtain ⟨l, _, rfl⟩ := List.mem_map.mp hx
      refine ⟨.lf l, S2, h5, by simp [lev], by simp [nod, nb]; try omega, hbody _ fun d hd => ?_⟩
      have h4 := h4 d (by omega)
      have h6 := h6 d (by omega)
      have hl := leaf_list (R d) [.v (.ref 1), .v (.int ((D : Int) + 1)), .v (.int k), .nil, .nil, .nil] S1
      simp [endU, exB, exS, evE, evEs, evOr, bindE, bindO, optO, pureO, nxS, slotU, asB, c51, uc_eq, uc_lt, uEq_int, h4, hl, h6, enc, k4, hD]
    · by_cases ke4 : k = 4
      · subst ke4
        obtain ⟨j, S2, g1, g2, g3, g4⟩ := draw_ok 2 (by decide) (by decide) S1 h1
        have hj : j = 0 ∨ j = 1 := by omega
        rcases hj with rfl | rfl
        · obtain ⟨a, S3, a1, a2, a3, a4⟩ := ih S2 g1
          obtain ⟨b, S4, b1, b2, b3, b4⟩ := ih S3 a1
          refine ⟨.rc2 a b, S4, b1, by simp [lev]; omega, by have := nb_pos D; simp [nod, nb]; omega, hbody _ fun d hd => ?_⟩
          have h4 := h4 d (by omega)
          have g4 := g4 d (by omega)
          have a4 := a4 d (by omega)
          have b4 := b4 d (by omega)
          have hs : uSlc (.tup [.str "m", .str "n"]) (some 0) none = some (.tup [.str "m", .str "n"]) := by kernel_rfl
          simp [endU, evL, evI, seqM, compL, wipeU, setTg, evT, exB, exS, evE, evEs, evO, evOr, bindE, bindO, optO, pureO, nxS, slotU, asB, asI, c51, uc_eq, uc_lt, uEq_int, h4, g4, a4, b4, hs, hsub, enc, hD, line, uBlt]
        · obtain ⟨a, S3, a1, a2, a3, a4⟩ := ih S2 g1
          refine ⟨.rc1 a, S3, a1, by simp [lev]; omega, by have := nb_pos D; simp [nod, nb]; omega, hbody _ fun d hd => ?_⟩
          have h4 := h4 d (by omega)
          have g4 := g4 d (by omega)
          have a4 := a4 d (by omega)
          have hs : uSlc (.tup [.str "m", .str "n"]) (some 1) none = some (.tup [.str "n"]) := by kernel_rfl
          simp [endU, evL, evI, seqM, compL, wipeU, setTg, evT, exB, exS, evE, evEs, evO, evOr, bindE, bindO, optO, pureO, nxS, slotU, asB, asI, c51, uc_eq, uc_lt, uEq_int, h4, g4, a4, hs, hsub, enc, hD, line, uBlt]
      · by_cases ke5 : k = 5
        · subst ke5
          obtain ⟨x, S2, hx, g1, g4⟩ := any_lst [.str "left", .str "right"] (by simp) (by decide) S1 h1
          obtain ⟨a, S3, a1, a2, a3, a4⟩ := ih S2 g1
          obtain ⟨l, rfl⟩ : ∃ l, x = side l := by
            simp at hx
            rcases hx with rfl | rfl
            · exact ⟨true, rfl⟩
            · exact ⟨false, rfl⟩
          refine ⟨.cas l a, S3, a1, by simp [lev]; omega, by have := nb_pos D; simp [nod, nb]; omega, hbody _ fun d hd => ?_⟩
          have h4 := h4 d (by omega)
          have g4 := g4 d (by omega)
          have a4 := a4 d (by omega)
          simp [endU, evL_disp, exB, exS, evE, evEs, evO, evOr, bindE, bindO, optO, pureO, nxS, slotU, asB, asI, c51, uc_eq, uc_lt, uEq_int, h4, g4, a4, hsub, enc, hD, line]
        · obtain ⟨j, S2, g1, g2, g3, g4⟩ := draw_ok 4 (by decide) (by decide) S1 h1
          obtain ⟨us, S3, a1, a2, a3, a4⟩ := compL_hand (P := fun u => ∃ v, u = enc v ∧ lev v ≤ D + 1 ∧ nod v ≤ nb D) (k := D + 3)
            (ev := fun d x' S => match setTg (.n 4) x' (wipeU [.v (.ref 1), .v (.int ((D : Int) + 1)), .v (.int k), .nil, .nil, .nil] [4]) with
              | none => none
              | some ρ' => bindO (evT (R d) wdU .no ρ' S) fun b S => if b = true then bindO (evE (R d) wdU (.call 51 (.cons (.var 0) (.cons (.bin .sub (.var 1) (.k (.int 1))) .nil))) ρ' S) fun u S => pureO (some u) S else pureO none S)
            (rangeU 0 j.toNat) (fun x _ S hS => by
              obtain ⟨v, S', c1, c2, c3, c4⟩ := ih S hS
              refine ⟨enc v, S', c1, ⟨v, rfl, c2, c3⟩, fun d hd => ?_⟩
              have c4 := c4 d hd
              simp [setTg, wipeU, evT, evE, evEs, bindO, optO, pureO, slotU, hsub, c4]) S2 g1
          obtain ⟨vs, rfl, v1, v2⟩ := vs_of us a3
          have hr : (rangeU 0 j.toNat).length = j.toNat := by simp [rangeU]
          have hn : nods vs ≤ 3 * nb D := Nat.le_trans v2 (Nat.mul_le_mul_right _ (by omega))
          refine ⟨.lis vs, S3, a1, by simp [lev]; omega, by simp [nod, nb]; try omega, hbody _ fun d hd => ?_⟩
          have h4 := h4 d (by omega)
          have g4 := g4 d (by omega)
          have a4 := a4 d hd
          have hr2 : j.toNat ≤ 1000000 := by omega
          have e1 : evL (R d) wdU (.comp (.call 51 (.cons (.var 0) (.cons (.bin .sub (.var 1) (.k (.int 1))) .nil))) (.n 4) (.range (.call 49 (.cons (.var 0) (.cons (.k (.int 4)) .nil)))) .no [("item", 4)]) [.v (.ref 1), .v (.int ((D : Int) + 1)), .v (.int k), .nil, .nil, .nil] S1 = some (.ok (encs vs), S3) := by
            simp only [evL, evI, evE, evEs, bindO, pureO, optO, slotU, List.getElem?_cons_zero, List.getElem?_cons_succ, g4]
            rw [if_pos (by omega)]
            simp only [hr]
            rw [if_pos (by simp [line]; omega)]
            exact a4
          simp [endU, exB, exS, evE, evEs, evO, evOr, bindE, bindO, optO, pureO, nxS, slotU, asB, asI, c51, uc_eq, uc_lt, uEq_int, h4, e1, enc, hD, k4, ke4, ke5, line, uBlt]
end Pl
end
section
set_option maxRecDepth 100000
set_option maxHeartbeats 4000000
namespace Pl
open PySem Wy Core49
abbrev Fresh (k : Nat) (v : Va) : Prop := lev v ≤ 3 + k ∧ nod v ≤ 13 + 4 * k
def b52 : CB := match c52.body with
  | .cons _ (.cons (.for_ _ _ b) _) => b
  | _ => .nil
theorem step52 (n : U) (us : List U) (hu : us.length ≤ 10) (S : Sto) (hS : HandOk S) : ∃ o S', HandOk S' ∧ (∀ v, o = some v → Fresh 0 v) ∧ ∀ d, 5 ≤ d → exB (R d) wdU b52 [.v (.ref 1), .own us, .v n] S = some (.nx [.v (.ref 1), .own (us ++ prU n (o.map enc)), .v n], S') := by
  obtain ⟨k, S1, h1, h2, h3, h4⟩ := draw_ok 5 (by decide) (by decide) S hS
  by_cases hk : 0 < k
  · obtain ⟨v, S2, g1, g2, g3, g4⟩ := value_draw 2 S1 h1
    refine ⟨some v, S2, g1, (fun w hw => by cases hw; exact ⟨g2, by simpa [nb] using g3⟩), fun d hd => ?_⟩
    have h4 := h4 d (by omega)
    have g4 := g4 d (by omega)
    have hl : us.length < 1000000 := by omega
    have g4 : R d 51 [.ref 1, .int 2] S1 = _ := g4
    simp [endU, evL_disp, exB, exS, evE, evEs, evO, evT, evP, evAnd, evOr, bindE, bindO, optO, pureO, nxS, optS, slotU, slotP, asB, asI, line, setTg, tup2, ownOf, appU, frzU, uIdx, seqOf, L2.atI, L2.ixN, isiU, uc_eq, uc_ne, uc_gt, uc_lt, uc_le, uc_ge, ul_tup, ul_lst, isNonU_non, isNonU_tup, isNonU_int, isNonU_enc, b52, c52, h4, g4, hk, hl, prU]
  · refine ⟨none, S1, h1, (fun w hw => by cases hw), fun d hd => ?_⟩
    have h4 := h4 d (by omega)
    simp [endU, evL_disp, exB, exS, evE, evEs, evO, evT, evP, evAnd, evOr, bindE, bindO, optO, pureO, nxS, optS, slotU, slotP, asB, asI, line, setTg, tup2, ownOf, appU, frzU, uIdx, seqOf, L2.atI, L2.ixN, isiU, uc_eq, uc_ne, uc_gt, uc_lt, uc_le, uc_ge, ul_tup, ul_lst, isNonU_non, isNonU_tup, isNonU_int, isNonU_enc, b52, c52, h4, hk, prU]
theorem store_draw (S : Sto) (hS : HandOk S) : ∃ s S', HandOk S' ∧ (∀ n v, V5.get s n = some v → Fresh 0 v) ∧ Ev 6 52 [.ref 1] S (some (.ok (encV s), S')) := by
  have hp : ∀ (n : U) (o : Option Va), (prU n (o.map enc)).length ≤ 1 := fun n o => by cases o <;> simp [prU]
  obtain ⟨a, S1, a1, a2, a3⟩ := step52 (.str "a") [] (by simp) S hS
  obtain ⟨b, S2, b1, b2, b3⟩ := step52 (.str "b") ([] ++ prU (.str "a") (a.map enc)) (by have := hp (.str "a") a; simp; omega) S1 a1
  obtain ⟨c, S3, e1, e2, e3⟩ := step52 (.str "c") ([] ++ prU (.str "a") (a.map enc) ++ prU (.str "b") (b.map enc)) (by have := hp (.str "a") a; have := hp (.str "b") b; simp; omega) S2 b1
  obtain ⟨dd, S4, d1, d2, d3⟩ := step52 (.str "d") ([] ++ prU (.str "a") (a.map enc) ++ prU (.str "b") (b.map enc) ++ prU (.str "c") (c.map enc)) (by have := hp (.str "a") a; have := hp (.str "b") b; have := hp (.str "c") c; simp; omega) S3 e1
  refine ⟨⟨a, b, c, dd, none⟩, S4, d1, fun n v h => ?_, ?_⟩
  · cases n
    · exact a2 v h
    · exact b2 v h
    · exact e2 v h
    · exact d2 v h
    · cases h
  · refine Ev.body (k := 5) (c := c52) (ρ := [.v (.ref 1), .nil, .nil]) rfl rfl rfl fun d hd => ?_
    have a3 := a3 d hd
    have b3 := b3 d hd
    have e3 := e3 d hd
    have d3 := d3 d hd
    simp only [List.nil_append, List.append_assoc] at a3 b3 e3 d3
    rw [show c52.body = (.cons (.own 1 (.disp .nil)) (.cons (.for_ (.n 2) (.seq (.tup (.cons (.k (.str "a")) (.cons (.k (.str "b")) (.cons (.k (.str "c")) (.cons (.k (.str "d")) .nil)))))) b52) (.cons (.frz 1) (.cons (.ret (.blt .tuple (.var 1))) .nil)))) from rfl]
    simp [endU, evL_disp, exB, exS, evE, evEs, evI, seqM, bindE, bindO, optO, pureO, nxS, slotU, ownOf, frzU, setTg, forL, line, uBlt, a3, b3, e3, d3]
    simp [encV, enc5, list5, V5.u, prU]
def b53 : CB := match c53.body with
  | .cons _ (.cons (.for_ _ _ b) _) => b
  | _ => .nil
theorem step53 (n : U) (us : List U) (hu : us.length ≤ 10) (S : Sto) (hS : HandOk S) : ∃ o S', HandOk S' ∧ ∀ d, 5 ≤ d → exB (R d) wdU b53 [.v (.ref 1), .own us, .v n] S = some (.nx [.v (.ref 1), .own (us ++ prN n o), .v n], S') := by
  obtain ⟨k, S1, h1, h2, h3, h4⟩ := draw_ok 4 (by decide) (by decide) S hS
  by_cases hk : 0 < k
  · obtain ⟨v, S2, g1, g2, g3, g4⟩ := draw_ok 5 (by decide) (by decide) S1 h1
    obtain ⟨w, rfl⟩ := Int.eq_ofNat_of_zero_le g2
    refine ⟨some w, S2, g1, fun d hd => ?_⟩
    have h4 := h4 d (by omega)
    have g4 := g4 d (by omega)
    have hl : us.length < 1000000 := by omega
    simp [endU, evL_disp, exB, exS, evE, evEs, evO, evT, evP, evAnd, evOr, bindE, bindO, optO, pureO, nxS, optS, slotU, slotP, asB, asI, line, setTg, tup2, ownOf, appU, frzU, uIdx, seqOf, L2.atI, L2.ixN, isiU, uc_eq, uc_ne, uc_gt, uc_lt, uc_le, uc_ge, ul_tup, ul_lst, isNonU_non, isNonU_tup, isNonU_int, isNonU_enc, b53, c53, h4, g4, hk, hl, prN]
  · refine ⟨none, S1, h1, fun d hd => ?_⟩
    have h4 := h4 d (by omega)
    simp [endU, evL_disp, exB, exS, evE, evEs, evO, evT, evP, evAnd, evOr, bindE, bindO, optO, pureO, nxS, optS, slotU, slotP, asB, asI, line, setTg, tup2, ownOf, appU, frzU, uIdx, seqOf, L2.atI, L2.ixN, isiU, uc_eq, uc_ne, uc_gt, uc_lt, uc_le, uc_ge, ul_tup, ul_lst, isNonU_non, isNonU_tup, isNonU_int, isNonU_enc, b53, c53, h4, hk, prN]
theorem choices_draw (S : Sto) (hS : HandOk S) : ∃ s S', HandOk S' ∧ Ev 6 53 [.ref 1] S (some (.ok (enc2 s), S')) := by
  have hp : ∀ (n : U) (o : Option Nat), (prN n o).length ≤ 1 := fun n o => by cases o <;> simp [prN]
  obtain ⟨a, S1, a1, a3⟩ := step53 (.str "p") [] (by simp) S hS
  obtain ⟨b, S2, b1, b3⟩ := step53 (.str "q") ([] ++ prN (.str "p") a) (by have := hp (.str "p") a; simp; omega) S1 a1
  refine ⟨⟨a, b⟩, S2, b1, ?_⟩
  refine Ev.body (k := 5) (c := c53) (ρ := [.v (.ref 1), .nil, .nil]) rfl rfl rfl fun d hd => ?_
  have a3 := a3 d hd
  have b3 := b3 d hd
  simp only [List.nil_append, List.append_assoc] at a3 b3
  rw [show c53.body = (.cons (.own 1 (.disp .nil)) (.cons (.for_ (.n 2) (.seq (.tup (.cons (.k (.str "p")) (.cons (.k (.str "q")) .nil)))) b53) (.cons (.frz 1) (.cons (.ret (.blt .tuple (.var 1))) .nil)))) from rfl]
  simp [endU, evL_disp, exB, exS, evE, evEs, evI, seqM, bindE, bindO, optO, pureO, nxS, slotU, ownOf, frzU, setTg, forL, line, uBlt, a3, b3, enc2]
def cell (i : Int) : Int := (if i < 0 then -i else i) % 1000000000000000000000000000000000000
theorem pow36 : uBin .pow (.int 10) (.int 36) = some (.int 1000000000000000000000000000000000000) := by kernel_rfl
theorem hand_ok (xs : List Int) (h : xs.length ≤ 63) : ∃ S', HandOk S' ∧ Ev 1 48 [.fz (xs.map .int)] [] (some (.ok (.ref 1), S')) := by
  refine ⟨HS (xs.map cell) 0 0 (1097 + 653 * (xs.map cell).length) 0, ⟨_, _, _, _, _, rfl, by decide, by decide⟩, ?_⟩
  refine Ev.body (k := 0) (c := c48) (ρ := [.v (.fz (xs.map .int)), .nil, .nil]) rfl rfl rfl fun d hd => ?_
  have hs : uSlc (.fz (xs.map .int)) none (some 63) = some (.lst (xs.map .int)) := by
    show some (U.lst (cutU (xs.map .int) none (some 63))) = _
    unfold cutU
    rw [HT.sIx_none]
    have e1 : HT.sIx (xs.map U.int).length (xs.map U.int).length (some 63) = xs.length := by
      show (if (63 : Int) < 0 then ((63 : Int) + ((xs.map U.int).length : Int)).toNat else min (63 : Int).toNat (xs.map U.int).length) = xs.length
      rw [if_neg (by decide)]
      simp; omega
    rw [e1]
    simp only [Nat.sub_zero, List.drop_zero]
    rw [List.take_of_length_le (by simp)]
  have hc := comp_map (fn := R d) (elt := (.bin .mod (.blt .int (.blt .abs (.blt .int (.var 2)))) (.bin .pow (.k (.int 10)) (.k (.int 36))))) (tg := .n 2) (it := (.seq (.slc (.var 0) .no (.so (.k (.int 63)))))) (own := [("cell", 2)]) (S := []) (xs := xs)
      (ρ := [.v (.fz (xs.map .int)), .nil, .nil]) .int (fun i => .int (cell i)) (by simp [evI, evE, evO, bindO, optO, pureO, slotU, asI, hs, seqM]) (by simp [line]; omega) fun y hy => ⟨_, rfl, by
        have hm := ub_mod (if y < 0 then -y else y) 1000000000000000000000000000000000000 (by decide)
        have ha : uBlt [] .abs (.int y) = some (.int (if y < 0 then -y else y)) := rfl
        simp [evE, bindO, optO, pureO, slotU, wipeU, ub_int, ha, pow36, hm, cell]⟩
  have hm := ub_mull 653 (xs.length : Int) (by decide) (by decide)
  have hl : uBlt [xs.map fun i => U.int (cell i)] .len (.ref 0) = some (.int xs.length) := by simp [uBlt, seqOf]
  simp [endU, evL_disp, exB, exS, evE, evEs, bindE, bindO, optO, pureO, nxS, slotU, line, c48, hc, hl, hm, ub_add]
end Pl
end
section
set_option maxRecDepth 100000
set_option maxHeartbeats 4000000
namespace Pl
open PySem Wy Core49
def Fr (k : Nat) (t : Stt) : Prop := ∀ n v, t.s.get n = some v → Fresh k v
def EdOk (e : Ed) : Prop := (pathOf e).length ≤ 40 ∧ match e with
  | .put _ v => Fresh 0 v
  | .part _ _ v => lev v ≤ 2 ∧ nod v ≤ 4
  | .ahead _ _ v => lev v ≤ 2 ∧ nod v ≤ 4
  | _ => True
theorem fr_ok {k : Nat} {t : Stt} (h : Fr k t) (hk : k ≤ 6) : Ok t := fun n v e => by
  have := h n v e
  exact ⟨by omega, by omega⟩
theorem Fr.mono {k m : Nat} {t : Stt} (h : Fr k t) (e : k ≤ m) : Fr m t := fun n v q => by
  have := h n v q
  exact ⟨by omega, by omega⟩
theorem levs_pos (vs : Vs) : 1 ≤ levs vs := by cases vs <;> simp [levs]; rename_i v vs; have : 1 ≤ lev v := by cases v <;> simp [lev]
                                               omega
theorem fr_next {k : Nat} {t t' : Stt} {e : Ed} (h : Fr k t) (he : EdOk e) (hs : edS t e = some t') : Fr (k + 1) t' := by
  have put : ∀ n w, (∀ m v, t.s.get m = some v → Fresh k v) → Fresh (k + 1) w → Fr (k + 1) ⟨t.s.set n (some w), t.c⟩ := fun n w hg hw m v hm => by
    simp only [V5.get_set] at hm
    split at hm
    · cases hm; exact hw
    · have := hg m v hm; exact ⟨by omega, by omega⟩
  cases e with
  | put n v => cases hs; exact put n v h ⟨by have := he.2.1; omega, by have := he.2.2; omega⟩
  | drop n =>
    simp only [edS] at hs
    cases hg : t.s.get n with
    | none => rw [hg] at hs; cases hs
    | some x =>
      rw [hg] at hs; cases hs
      intro m v hm
      simp only [V5.get_set] at hm
      split at hm
      · cases hm
      · have := h m v hm; exact ⟨by omega, by omega⟩
  | dropz => cases hs
  | choose m i => cases hs; exact Fr.mono (t := ⟨t.s, _⟩) h (by omega)
  | unch m =>
    simp only [edS] at hs
    cases hg : t.c.get m with
    | none => rw [hg] at hs; cases hs
    | some x => rw [hg] at hs; cases hs; exact Fr.mono (t := ⟨t.s, _⟩) h (by omega)
  | part n p v =>
    obtain ⟨w, hw, rfl⟩ := newV_some (n := n) hs
    obtain ⟨here, c, q1, q2, q3⟩ := newV_part hw
    have hh := h n here q1
    have h1 := nod_wth' q3 q2
    have hc := nod_pos c
    have hlc : 1 ≤ lev c := by cases c <;> simp [lev]
    have h2 := lev_wth (m := 1) q3 q2 (by have := he.2.1; omega)
    exact put n w h ⟨by omega, by have := he.2.2; omega⟩
  | ahead n p v =>
    obtain ⟨w, hw, rfl⟩ := newV_some (n := n) hs
    obtain ⟨here, vs, q1, q2, q3⟩ := newV_ahead hw
    have hh := h n here q1
    have h1 := nod_wth' q3 q2
    have hlc := levs_pos vs
    have h2 := lev_wth (m := 1) q3 q2 (by have := he.2.1; simp [lev, levs]; omega)
    simp [nod, nods] at h1
    exact put n w h ⟨by omega, by have := he.2.2; omega⟩
  | cut n p =>
    obtain ⟨w, hw, rfl⟩ := newV_some (n := n) hs
    obtain ⟨here, x, vs, q1, q2, q3⟩ := newV_cut hw
    have hh := h n here q1
    have h1 := nod_wth' q3 q2
    have hlc := levs_pos vs
    have h2 := lev_wth (m := 0) q3 q2 (by simp [lev, levs]; omega)
    simp [nod, nods] at h1
    exact put n w h ⟨by omega, by omega⟩
theorem good_ed {k : Nat} {t : Stt} {e : Ed} (h : Fr k t) (hk : k ≤ 5) (he : EdOk e) : Good t e := by
  refine ⟨fr_ok h (by omega), fun v hv => ?_, he.1, fun t' ht => fr_ok (fr_next h he ht) (by omega)⟩
  cases e with
  | put n w => cases hv; have := he.2; exact ⟨by have := this.2; omega, by have := this.1; omega⟩
  | part n p w => cases hv; have := he.2; exact ⟨by have := this.2; omega, by have := this.1; omega⟩
  | ahead n p w => cases hv; have := he.2; exact ⟨by have := this.2; omega, by have := this.1; omega⟩
  | _ => cases hv
def encNs (s : V5) : List U := (items s).map fun i => encN i.1
theorem mem_names {s : V5} {x : U} (h : x ∈ encNs s) : ∃ n v, x = encN n ∧ s.get n = some v := by
  obtain ⟨i, hi, rfl⟩ := List.mem_map.mp h
  exact ⟨i.1, i.2, rfl, items_get hi⟩
theorem comp61 (fn : Nat → List U → Sto → UM U) (t : Stt) (x : U) (S : Sto) : evL fn wdU (.comp (.var 4) (.t2 4 5) (.seq (.sub (.var 1) (.k (.int 0)))) .no [("name", 4), ("value", 5)]) [.v x, .v (encT t), .nil, .nil, .nil, .nil, .nil, .nil, .nil] S = some (.ok (encNs t.s), S) := by
  refine comp_map encI (fun i => encN i.1) ?_ (by have := items_len t.s; simp [line]; omega) fun y hy => ⟨_, rfl, rfl⟩
  have : uIdx S (encT t) (.int 0) = some (encV t.s) := rfl
  simp [evI, evE, bindO, optO, pureO, slotU, this, encV_items, seqM]
def nonLeaf (v : Va) (p : List St) : Bool := match part v p with | some w => !isLf w | none => false
def isL (v : Va) (p : List St) : Bool := match part v p with | some w => isLis w | none => false
theorem part_paths : ∀ {n : Nat} {v : Va} {p : List St}, nod v ≤ n → p ∈ paths v → ∃ w, part v p = some w := by
  intro n
  induction n with
  | zero => intro v p h; have := nod_pos v; omega
  | succ n ih =>
    intro v p h hp
    rw [paths_kids] at hp
    rcases List.mem_cons.mp hp with rfl | hp
    · exact ⟨v, rfl⟩
    · obtain ⟨k, hk, hp⟩ := List.mem_flatMap.mp hp
      obtain ⟨q, hq, rfl⟩ := List.mem_map.mp hp
      have h1 := nod_kids (s := k.1) (w := k.2) hk
      obtain ⟨w, hw⟩ := ih (v := k.2) (by omega) hq
      exact ⟨w, by rw [part_cons, sub_kids (s := k.1) (w := k.2) hk]; exact hw⟩
theorem comp61b (d : Nat) (v : Va) (x y z w q l' : U) (l : Wy.Slot) (S : Sto) (hn : nod v ≤ 41) (hd : 42 ≤ d) : evL (R d) wdU (.comp (.var 8) (.n 8) (.seq (.call 55 (.cons (.var 5) .nil))) (.so (.isi (.call 54 (.cons (.var 5) (.cons (.var 8) .nil))) .tuple)) [("one", 8)]) [.v x, .v y, .v z, .v w, .v q, .v (enc v), .v l', l, .nil] S = some (.ok (((paths v).filter (nonLeaf v)).map encP), S) := by
  have h0 := np_nod _ v (Nat.le_refl _)
  have h1 := law_paths_ok _ v S (Nat.le_refl _) (by omega) d (by omega)
  refine comp_fil encP (nonLeaf v) encP ?_ (by simp [line]; unfold np at h0; omega) fun p hp => ⟨_, rfl, ?_, fun _ => rfl⟩
  · simp [evI, evE, evEs, bindO, optO, pureO, slotU, seqM, h1]
  · have h2 := (Ev.of fun d => law_part_ok d S v p) d (by omega)
    obtain ⟨c, hc⟩ := part_paths (Nat.le_refl _) hp
    rw [hc] at h2
    have h3 : isiU .tuple (enc c) = nonLeaf v p := by
      unfold nonLeaf; rw [hc]
      cases hl : isLf c with
      | true => rw [lx_leaf c hl]; simp [hl]
      | false => obtain ⟨_, _, _, h⟩ := lx_list c S hl; rw [h]; simp [hl]
    simp [evT, evE, evEs, bindO, optO, pureO, slotU, wipeU, asB, h2, h3]
theorem comp61c (d : Nat) (v : Va) (x y z w q l' : U) (S : Sto) (hn : nod v ≤ 41) (hd : 42 ≤ d) : evL (R d) wdU (.comp (.var 8) (.n 8) (.seq (.var 7)) (.so (.cmp .eq (.sub (.call 54 (.cons (.var 5) (.cons (.var 8) .nil))) (.k (.int 0))) (.k (.str "list")))) [("one", 8)]) [.v x, .v y, .v z, .v w, .v q, .v (enc v), .v l', .v (.lst (((paths v).filter (nonLeaf v)).map encP)), .nil] S = some (.ok ((((paths v).filter (nonLeaf v)).filter (isL v)).map encP), S) := by
  have h0 := np_nod _ v (Nat.le_refl _)
  have hfl : ((paths v).filter (nonLeaf v)).length ≤ (paths v).length := List.length_filter_le _ _
  refine comp_fil encP (isL v) encP ?_ (by simp only [line]; unfold np at h0; omega) fun p hp => ⟨_, rfl, ?_, fun _ => rfl⟩
  · simp [evI, evE, evEs, bindO, optO, pureO, slotU, seqM]
  · obtain ⟨hp, hnl⟩ := List.mem_filter.mp hp
    have h2 := (Ev.of fun d => law_part_ok d S v p) d (by omega)
    obtain ⟨c, hc⟩ := part_paths (Nat.le_refl _) hp
    rw [hc] at h2
    have hl : isLf c = false := by
      unfold nonLeaf at hnl; rw [hc] at hnl; simpa using hnl
    obtain ⟨wd, x1, x2, _⟩ := lx_list c S hl
    have h3 : isL v p = isLis c := by unfold isL; rw [hc]
    simp only [evT, evE, evEs, bindO, optO, pureO, slotU, wipeU, List.map_cons, List.map_nil, List.set_cons_succ, List.set_cons_zero, List.getElem?_cons_zero, List.getElem?_cons_succ]
    simp [h2, x1, x2, uc_eq, asB, h3]
def r61 : CB := match c61.body with
  | .cons _ (.cons _ (.cons _ (.cons _ b))) => b
  | _ => .nil
def t61 : CB := match r61 with
  | .cons _ (.cons _ (.cons _ b)) => b
  | _ => .nil
theorem paths_ne (v : Va) : paths v ≠ [] := by rw [paths_kids]; simp
theorem tail_draw (k : Nat) (t : Stt) (hf : Fr k t) (hk : k ≤ 5) (n : Nm) (here : Va) (hg : t.s.get n = some here) (kd : Int) (w : U) (S : Sto) (hS : HandOk S) : ∃ e S', HandOk S' ∧ EdOk e ∧ ∀ d, 42 ≤ d → endU (exB (R d) wdU t61 [.v (.ref 1), .v (encT t), .v (.int kd), .v w, .v (encN n), .nil, .nil, .nil, .nil] S) = some (.ok (encE e), S') := by
  have hh := hf n here hg
  have hn : nod here ≤ 33 := by omega
  have hnp := np_nod _ here (Nat.le_refl _)
  obtain ⟨x, S1, a1, a2, a3⟩ := any_lst ((paths here).map encP) (by simp [paths_ne]) (by simp; unfold np at hnp; omega) S hS
  obtain ⟨p, hp, rfl⟩ := List.mem_map.mp a1
  have hpl := path_np (Nat.le_refl _) p hp
  have i0 : uIdx S (encT t) (.int 0) = some (encV t.s) := rfl
  by_cases k6 : kd < 6
  · obtain ⟨v, S2, b1, b2, b3, b4⟩ := value_draw 1 S1 a2
    refine ⟨.part n p v, S2, b1, ⟨by simp [pathOf]; omega, ⟨b2, by simpa [nb] using b3⟩⟩, fun d hd => ?_⟩
    have a3 := a3 d (by omega)
    have b4 : R d 51 [.ref 1, .int 1] S1 = some (.ok (enc v), S2) := b4 d (by omega)
    have f1 := found_ok t.s n S d (by omega)
    rw [hg] at f1
    have f2 := law_paths_ok _ here S (Nat.le_refl _) (by omega) d (by omega)
    simp [endU, exB, exS, evE, evEs, bindE, bindO, optO, pureO, nxS, slotU, asB, line, t61, r61, c61, uc_lt, i0, f1, f2, a3, b4, k6, optE, encE]
  · by_cases hl0 : ((paths here).filter (nonLeaf here)).filter (isL here) = []
    · by_cases k66 : kd = 6
      · subst k66
        obtain ⟨v, S2, b1, b2, b3, b4⟩ := value_draw 1 S1 a2
        refine ⟨.ahead n p v, S2, b1, ⟨by simp [pathOf]; omega, ⟨b2, by simpa [nb] using b3⟩⟩, fun d hd => ?_⟩
        have a3 := a3 d (by omega)
        have b4 : R d 51 [.ref 1, .int 1] S1 = some (.ok (enc v), S2) := b4 d (by omega)
        have f1 := found_ok t.s n S d (by omega)
        rw [hg] at f1
        have f2 := law_paths_ok _ here S (Nat.le_refl _) (by omega) d (by omega)
        have g1 := comp61b d here (.ref 1) (encT t) (.int 6) w (encN n) (encP p) .nil S1 (by omega) hd
        have g2 := comp61c d here (.ref 1) (encT t) (.int 6) w (encN n) (encP p) S1 (by omega) hd
        rw [hl0] at g2
        simp [endU, exB, exS, evE, evEs, bindE, bindO, optO, pureO, nxS, slotU, asB, line, t61, r61, c61, uc_lt, uc_gt, uc_eq, uEq_int, ul_lst, i0, f1, f2, a3, b4, g1, g2, optE, encE]
      · refine ⟨.cut n p, S1, a2, ⟨by simp [pathOf]; omega, trivial⟩, fun d hd => ?_⟩
        have a3 := a3 d (by omega)
        have f1 := found_ok t.s n S d (by omega)
        rw [hg] at f1
        have f2 := law_paths_ok _ here S (Nat.le_refl _) (by omega) d (by omega)
        have g1 := comp61b d here (.ref 1) (encT t) (.int kd) w (encN n) (encP p) .nil S1 (by omega) hd
        have g2 := comp61c d here (.ref 1) (encT t) (.int kd) w (encN n) (encP p) S1 (by omega) hd
        rw [hl0] at g2
        simp [endU, exB, exS, evE, evEs, bindE, bindO, optO, pureO, nxS, slotU, asB, line, t61, r61, c61, uc_lt, uc_gt, uc_eq, uEq_int, ul_lst, i0, f1, f2, a3, g1, g2, optE, encE, k6, k66]
    · have hfl : (((paths here).filter (nonLeaf here)).filter (isL here)).length ≤ (paths here).length := Nat.le_trans (List.length_filter_le _ _) (List.length_filter_le _ _)
      obtain ⟨y, S2, b1, b2, b3⟩ := any_lst ((((paths here).filter (nonLeaf here)).filter (isL here)).map encP) (by simpa using hl0) (by simp only [List.length_map]; unfold np at hnp; omega) S1 a2
      obtain ⟨q, hq, rfl⟩ := List.mem_map.mp b1
      have hq := (List.mem_filter.mp (List.mem_filter.mp hq).1).1
      have hql := path_np (Nat.le_refl _) q hq
      have hpos : 0 < (((paths here).filter (nonLeaf here)).filter (isL here)).length := List.length_pos_iff.mpr hl0
      generalize hL : ((paths here).filter (nonLeaf here)).filter (isL here) = L at *
      by_cases k66 : kd = 6
      · subst k66
        obtain ⟨v, S3, c1, c2, c3, c4⟩ := value_draw 1 S2 b2
        refine ⟨.ahead n q v, S3, c1, ⟨by simp [pathOf]; omega, ⟨c2, by simpa [nb] using c3⟩⟩, fun d hd => ?_⟩
        have a3 := a3 d (by omega)
        have b3 := b3 d (by omega)
        have c4 : R d 51 [.ref 1, .int 1] S2 = some (.ok (enc v), S3) := c4 d (by omega)
        have f1 := found_ok t.s n S d (by omega)
        rw [hg] at f1
        have f2 := law_paths_ok _ here S (Nat.le_refl _) (by omega) d (by omega)
        have g1 := comp61b d here (.ref 1) (encT t) (.int 6) w (encN n) (encP p) .nil S1 (by omega) hd
        have g2 := comp61c d here (.ref 1) (encT t) (.int 6) w (encN n) (encP p) S1 (by omega) hd
        rw [hL] at g2
        simp [endU, exB, exS, evE, evEs, bindE, bindO, optO, pureO, nxS, slotU, asB, line, t61, r61, c61, uc_lt, uc_gt, uc_eq, uEq_int, ul_lst, i0, f1, f2, a3, b3, c4, g1, g2, optE, encE, hpos]
      · refine ⟨.cut n q, S2, b2, ⟨by simp [pathOf]; omega, trivial⟩, fun d hd => ?_⟩
        have a3 := a3 d (by omega)
        have b3 := b3 d (by omega)
        have f1 := found_ok t.s n S d (by omega)
        rw [hg] at f1
        have f2 := law_paths_ok _ here S (Nat.le_refl _) (by omega) d (by omega)
        have g1 := comp61b d here (.ref 1) (encT t) (.int kd) w (encN n) (encP p) .nil S1 (by omega) hd
        have g2 := comp61c d here (.ref 1) (encT t) (.int kd) w (encN n) (encP p) S1 (by omega) hd
        rw [hL] at g2
        simp [endU, exB, exS, evE, evEs, bindE, bindO, optO, pureO, nxS, slotU, asB, line, t61, r61, c61, uc_lt, uc_gt, uc_eq, uEq_int, ul_lst, i0, f1, f2, a3, b3, g1, g2, optE, encE, hpos, k6, k66]
theorem edit_draw (k : Nat) (t : Stt) (hf : Fr k t) (hk : k ≤ 5) (S : Sto) (hS : HandOk S) : ∃ e S', HandOk S' ∧ EdOk e ∧ Ev 43 61 [.ref 1, encT t] S (some (.ok (encE e), S')) := by
  obtain ⟨kd, S1, a1, a2, a3, a4⟩ := draw_ok 8 (by decide) (by decide) S hS
  have hbody : ∀ (r : UM U), (∀ d, 42 ≤ d → endU (exB (R d) wdU c61.body [.v (.ref 1), .v (encT t), .nil, .nil, .nil, .nil, .nil, .nil, .nil] S) = r) → Ev 43 61 [.ref 1, encT t] S r := fun r h =>
    Ev.body (k := 42) (c := c61) (ρ := [.v (.ref 1), .v (encT t), .nil, .nil, .nil, .nil, .nil, .nil, .nil]) rfl rfl rfl h
  have hN := fun fn => comp61 fn t (.ref 1) S1
  have hlen : (encNs t.s).length ≤ 5 := by simpa [encNs] using items_len t.s
  by_cases hput : kd < 2 ∨ (encNs t.s).length = 0 ∨ (kd = 2 ∧ (encNs t.s).length < 2)
  · obtain ⟨x, S2, b1, b2, b3⟩ := any_lst [.str "a", .str "b", .str "c", .str "e"] (by simp) (by decide) S1 a1
    obtain ⟨n, rfl⟩ : ∃ n, x = encN n := by
      simp at b1
      rcases b1 with rfl | rfl | rfl | rfl
      · exact ⟨.a, rfl⟩
      · exact ⟨.b, rfl⟩
      · exact ⟨.c, rfl⟩
      · exact ⟨.e, rfl⟩
    obtain ⟨v, S3, c1, c2, c3, c4⟩ := value_draw 2 S2 b2
    refine ⟨.put n v, S3, c1, ⟨by simp [pathOf], ⟨c2, by simpa [nb] using c3⟩⟩, hbody _ fun d hd => ?_⟩
    have a4 := a4 d (by omega)
    have b3 := b3 d (by omega)
    have c4 : R d 51 [.ref 1, .int 2] S2 = some (.ok (enc v), S3) := c4 d (by omega)
    have hN := hN (R d)
    by_cases q1 : kd < 2
    · simp [endU, evL_disp, exB, exS, evE, evEs, evP, evOr, bindE, bindO, optO, pureO, nxS, slotU, slotP, ownOf, frzU, asB, line, c61, uc_lt, uc_eq, a4, b3, c4, hN, ul_lst, q1, encE]
    · by_cases q2 : encNs t.s = []
      · simp [endU, evL_disp, exB, exS, evE, evEs, evP, evOr, bindE, bindO, optO, pureO, nxS, slotU, slotP, ownOf, frzU, asB, line, c61, uc_lt, uc_eq, uEq_int, a4, b3, c4, hN, ul_lst, q1, q2, encE]
      · have q3 : ¬ (encNs t.s).length = 0 := fun h => q2 (List.length_eq_zero_iff.mp h)
        have q4 : kd = 2 ∧ (encNs t.s).length < 2 := by
          rcases hput with h | h | h
          · exact absurd h q1
          · exact absurd h q3
          · exact h
        obtain ⟨rfl, q5⟩ := q4
        have q6 : ((encNs t.s).length : Int) < 2 := by omega
        simp [endU, evL_disp, exB, exS, evE, evEs, evP, evOr, evAnd, bindE, bindO, optO, pureO, nxS, slotU, slotP, ownOf, frzU, asB, line, c61, uc_lt, uc_eq, uEq_int, a4, b3, c4, hN, ul_lst, q1, q2, q6, encE]
  · have q1 : ¬ kd < 2 := fun h => hput (.inl h)
    have q2 : encNs t.s ≠ [] := fun h => hput (.inr (.inl (by rw [h]; rfl)))
    have q3 : ¬ (kd = 2 ∧ (encNs t.s).length < 2) := fun h => hput (.inr (.inr h))
    obtain ⟨x, S2, b1, b2, b3⟩ := any_lst (encNs t.s) q2 (by omega) S1 a1
    obtain ⟨n, here, rfl, hg⟩ := mem_names b1
    have hcom : ∀ d, 42 ≤ d → endU (exB (R d) wdU c61.body [.v (.ref 1), .v (encT t), .nil, .nil, .nil, .nil, .nil, .nil, .nil] S) = endU (exB (R d) wdU r61 [.v (.ref 1), .v (encT t), .v (.int kd), .v (.lst (encNs t.s)), .v (encN n), .nil, .nil, .nil, .nil] S2) := fun d hd => by
      have a4 := a4 d (by omega)
      have b3 := b3 d (by omega)
      have hN := hN (R d)
      rw [show c61.body = .cons (.parO 2 3 (.call 49 (.cons (.var 0) (.cons (.k (.int 8)) .nil))) (.ofL (.comp (.var 4) (.t2 4 5) (.seq (.sub (.var 1) (.k (.int 0)))) .no [("name", 4), ("value", 5)]))) (.cons (.frz 3) (.cons (.ite (.or (.cons (.cmp .lt (.var 2) (.k (.int 2))) (.cons (.cmp .eq (.blt .len (.var 3)) (.k (.int 0))) (.cons (.and (.cons (.cmp .eq (.var 2) (.k (.int 2))) (.cons (.cmp .lt (.blt .len (.var 3)) (.k (.int 2))) .nil))) .nil)))) (.cons (.ret (.tup (.cons (.k (.str "put")) (.cons (.call 50 (.cons (.var 0) (.cons (.ofL (.disp (.cons (.k (.str "a")) (.cons (.k (.str "b")) (.cons (.k (.str "c")) (.cons (.k (.str "e")) .nil)))))) .nil))) (.cons (.call 51 (.cons (.var 0) (.cons (.k (.int 2)) .nil))) .nil))))) .nil) .nil) (.cons (.asg 4 (.call 50 (.cons (.var 0) (.cons (.var 3) .nil)))) r61))) from rfl]
      by_cases q4 : kd = 2
      · subst q4
        have q5 : ¬ ((encNs t.s).length : Int) < 2 := fun h => q3 ⟨rfl, by omega⟩
        simp [endU, evL_disp, exB, exS, evE, evEs, evP, evOr, evAnd, bindE, bindO, optO, pureO, nxS, slotU, slotP, ownOf, frzU, asB, line, uc_lt, uc_eq, uEq_int, a4, b3, hN, ul_lst, q2, q5]
      · simp [endU, evL_disp, exB, exS, evE, evEs, evP, evOr, evAnd, bindE, bindO, optO, pureO, nxS, slotU, slotP, ownOf, frzU, asB, line, uc_lt, uc_eq, uEq_int, a4, b3, hN, ul_lst, q1, q2, q4]
    by_cases k2 : kd = 2
    · subst k2
      obtain ⟨j, S3, c1, c2, c3, c4⟩ := draw_ok 5 (by decide) (by decide) S2 b2
      by_cases hj : 0 < j
      · refine ⟨.drop n, S3, c1, ⟨by simp [pathOf], trivial⟩, hbody _ fun d hd => ?_⟩
        rw [hcom d hd]
        have c4 := c4 d (by omega)
        simp [endU, exB, exS, evE, evEs, bindE, bindO, optO, pureO, nxS, slotU, asB, line, r61, c61, uc_eq, uEq_int, uc_gt, c4, hj, encE]
      · refine ⟨.dropz, S3, c1, ⟨by simp [pathOf], trivial⟩, hbody _ fun d hd => ?_⟩
        rw [hcom d hd]
        have c4 := c4 d (by omega)
        simp [endU, exB, exS, evE, evEs, bindE, bindO, optO, pureO, nxS, slotU, asB, line, r61, c61, uc_eq, uEq_int, uc_gt, c4, hj, encE]
    · have anyM : ∀ S, HandOk S → ∃ m S', HandOk S' ∧ Ev 2 50 [.ref 1, .lst [.str "p", .str "q"]] S (some (.ok (encM m), S')) := fun S hS => by
        obtain ⟨y, S', e1, e2, e3⟩ := any_lst [.str "p", .str "q"] (by simp) (by decide) S hS
        simp at e1
        rcases e1 with rfl | rfl
        · exact ⟨.p, S', e2, e3⟩
        · exact ⟨.q, S', e2, e3⟩
      by_cases k3 : kd = 3
      · subst k3
        obtain ⟨m, S3, c1, c4⟩ := anyM S2 b2
        obtain ⟨j, S4, d1, d2, d3, d4⟩ := draw_ok 5 (by decide) (by decide) S3 c1
        obtain ⟨j, rfl⟩ := Int.eq_ofNat_of_zero_le d2
        refine ⟨.choose m j, S4, d1, ⟨by simp [pathOf], trivial⟩, hbody _ fun d hd => ?_⟩
        rw [hcom d hd]
        have c4 := c4 d (by omega)
        have d4 := d4 d (by omega)
        simp [endU, evL_disp, exB, exS, evE, evEs, bindE, bindO, optO, pureO, nxS, slotU, asB, line, r61, c61, uc_eq, uEq_int, uc_gt, c4, d4, encE]
      · by_cases k4 : kd = 4
        · subst k4
          obtain ⟨j, S3, c1, c2, c3, c4⟩ := draw_ok 2 (by decide) (by decide) S2 b2
          by_cases hj : j = 0
          · subst hj
            obtain ⟨m, S4, d1, d4⟩ := anyM S3 c1
            refine ⟨.unch m, S4, d1, ⟨by simp [pathOf], trivial⟩, hbody _ fun d hd => ?_⟩
            rw [hcom d hd]
            have c4 := c4 d (by omega)
            have d4 := d4 d (by omega)
            simp [endU, evL_disp, exB, exS, evE, evEs, evAnd, bindE, bindO, optO, pureO, nxS, slotU, asB, line, r61, c61, uc_eq, uEq_int, uc_gt, c4, d4, encE]
          · obtain ⟨e, S4, d1, d2, d3⟩ := tail_draw k t hf hk n here hg 4 (.lst (encNs t.s)) S3 c1
            refine ⟨e, S4, d1, d2, hbody _ fun d hd => ?_⟩
            rw [hcom d hd, ← d3 d hd]
            have c4 := c4 d (by omega)
            rw [show r61 = .cons (.ite (.cmp .eq (.var 2) (.k (.int 2))) (.cons (.ret (.tup (.cons (.k (.str "drop")) (.cons (.ite (.cmp .gt (.call 49 (.cons (.var 0) (.cons (.k (.int 5)) .nil))) (.k (.int 0))) (.var 4) (.k (.str "z"))) .nil)))) .nil) .nil) (.cons (.ite (.cmp .eq (.var 2) (.k (.int 3))) (.cons (.ret (.tup (.cons (.k (.str "choose")) (.cons (.call 50 (.cons (.var 0) (.cons (.ofL (.disp (.cons (.k (.str "p")) (.cons (.k (.str "q")) .nil)))) .nil))) (.cons (.call 49 (.cons (.var 0) (.cons (.k (.int 5)) .nil))) .nil))))) .nil) .nil) (.cons (.ite (.and (.cons (.cmp .eq (.var 2) (.k (.int 4))) (.cons (.cmp .eq (.call 49 (.cons (.var 0) (.cons (.k (.int 2)) .nil))) (.k (.int 0))) .nil))) (.cons (.ret (.tup (.cons (.k (.str "unchoose")) (.cons (.call 50 (.cons (.var 0) (.cons (.ofL (.disp (.cons (.k (.str "p")) (.cons (.k (.str "q")) .nil)))) .nil))) .nil)))) .nil) .nil) t61)) from rfl]
            simp [exB, exS, evE, evEs, evAnd, bindE, bindO, optO, pureO, nxS, slotU, asB, line, uc_eq, uEq_int, c4, hj]
        · obtain ⟨e, S4, d1, d2, d3⟩ := tail_draw k t hf hk n here hg kd (.lst (encNs t.s)) S2 b2
          refine ⟨e, S4, d1, d2, hbody _ fun d hd => ?_⟩
          rw [hcom d hd, ← d3 d hd]
          rw [show r61 = .cons (.ite (.cmp .eq (.var 2) (.k (.int 2))) (.cons (.ret (.tup (.cons (.k (.str "drop")) (.cons (.ite (.cmp .gt (.call 49 (.cons (.var 0) (.cons (.k (.int 5)) .nil))) (.k (.int 0))) (.var 4) (.k (.str "z"))) .nil)))) .nil) .nil) (.cons (.ite (.cmp .eq (.var 2) (.k (.int 3))) (.cons (.ret (.tup (.cons (.k (.str "choose")) (.cons (.call 50 (.cons (.var 0) (.cons (.ofL (.disp (.cons (.k (.str "p")) (.cons (.k (.str "q")) .nil)))) .nil))) (.cons (.call 49 (.cons (.var 0) (.cons (.k (.int 5)) .nil))) .nil))))) .nil) .nil) (.cons (.ite (.and (.cons (.cmp .eq (.var 2) (.k (.int 4))) (.cons (.cmp .eq (.call 49 (.cons (.var 0) (.cons (.k (.int 2)) .nil))) (.k (.int 0))) .nil))) (.cons (.ret (.tup (.cons (.k (.str "unchoose")) (.cons (.call 50 (.cons (.var 0) (.cons (.ofL (.disp (.cons (.k (.str "p")) (.cons (.k (.str "q")) .nil)))) .nil))) .nil)))) .nil) .nil) t61)) from rfl]
          simp [exB, exS, evE, evEs, evAnd, bindE, bindO, optO, pureO, nxS, slotU, asB, line, uc_eq, uEq_int, k2, k3, k4]
end Pl
end
section
set_option maxRecDepth 100000
set_option maxHeartbeats 4000000
namespace Pl
open PySem Wy Core49
theorem eqok_small {v : Va} (h : lev v ≤ 12) : EqOk 36 (enc v) := (eqok_enc v).mono (by omega)
theorem eqok_head (v : Va) : EqOk 64 (headOf v) := by
  cases v with
  | lf l => exact eqok_f l
  | rc1 n => exact ⟨_, rfl, by decide +kernel, by decide +kernel⟩
  | rc2 m n => exact ⟨_, rfl, by decide +kernel, by decide +kernel⟩
  | cas l n => cases l <;> exact ⟨_, rfl, by decide +kernel, by decide +kernel⟩
  | lis vs => cases vs <;> exact ⟨_, rfl, by decide +kernel, by decide +kernel⟩
theorem eqok_N (n : Nat) (m : Nm) : EqOk n (encN m) := by cases m <;> exact eqok_str (by decide +kernel)
theorem eqok_M (n : Nat) (m : Cm) : EqOk n (encM m) := by cases m <;> exact eqok_str (by decide +kernel)
theorem eqok_V {s : V5} (h : OkS s) : EqOk 38 (encV s) := by
  rw [encV_items]
  refine .tup (eqoks_map fun i hi => ?_)
  exact .tup (.cons (eqok_N _ _) (.cons (eqok_small (h _ _ (items_get hi)).2) .nil))
theorem eqok_C (s : S2) : EqOk 38 (enc2 s) := by
  obtain ⟨p, q⟩ := s
  have one : ∀ (x : Str) (i : Nat), PyData.strOk x = true → EqOk 37 (.tup [.str x, .int i]) := fun x i h => (EqOk.tup (n := 1) (.cons (eqok_str h) (.cons eqok_int .nil))).mono (by decide)
  cases p <;> cases q
  · exact .tup .nil
  · exact .tup (.cons (one _ _ (by decide +kernel)) .nil)
  · exact .tup (.cons (one _ _ (by decide +kernel)) .nil)
  · exact .tup (.cons (one _ _ (by decide +kernel)) (.cons (one _ _ (by decide +kernel)) .nil))
theorem eqok_T {t : Stt} (h : Ok t) : EqOk 64 (encT t) := (EqOk.tup (n := 38) (.cons (eqok_V h) (.cons (eqok_C _) .nil))).mono (by decide)
theorem eqok_E {e : Ed} (h : ∀ v, valOf e = some v → Small v) : EqOk 64 (encE e) := by
  have k : ∀ (n : Nat) (x : Str), PyData.strOk x = true → EqOk n (.str x) := fun n x h => eqok_str h
  cases e with
  | put n v => exact (EqOk.tup (n := 36) (.cons (k _ _ (by decide +kernel)) (.cons (eqok_N _ _) (.cons (eqok_small (h v rfl).2) .nil)))).mono (by decide)
  | drop n => exact (EqOk.tup (n := 36) (.cons (k _ _ (by decide +kernel)) (.cons (eqok_N _ _) .nil))).mono (by decide)
  | dropz => exact (EqOk.tup (n := 36) (.cons (k _ _ (by decide +kernel)) (.cons (k _ _ (by decide +kernel)) .nil))).mono (by decide)
  | choose m i => exact (EqOk.tup (n := 36) (.cons (k _ _ (by decide +kernel)) (.cons (eqok_M _ _) (.cons eqok_int .nil)))).mono (by decide)
  | unch m => exact (EqOk.tup (n := 36) (.cons (k _ _ (by decide +kernel)) (.cons (eqok_M _ _) .nil))).mono (by decide)
  | part n p v => exact (EqOk.tup (n := 36) (.cons (k _ _ (by decide +kernel)) (.cons (eqok_N _ _) (.cons (eqok_path _ _) (.cons (eqok_small (h v rfl).2) .nil))))).mono (by decide)
  | ahead n p v => exact (EqOk.tup (n := 36) (.cons (k _ _ (by decide +kernel)) (.cons (eqok_N _ _) (.cons (eqok_path _ _) (.cons (eqok_small (h v rfl).2) .nil))))).mono (by decide)
  | cut n p => exact (EqOk.tup (n := 36) (.cons (k _ _ (by decide +kernel)) (.cons (eqok_N _ _) (.cons (eqok_path _ _) .nil)))).mono (by decide)
theorem eqok_paths (ps : List (List St)) : EqOk 64 (.lst (ps.map encP)) := (EqOk.lst (n := 2) (eqoks_map fun p _ => eqok_path 1 p)).mono (by decide)
theorem wd_edit (S : Sto) : wdU (some (.err "NoEdit", S)) = some (.ok (.str "edit"), S) := by kernel_rfl
theorem wd_state (S : Sto) : wdU (some (.err "NoState", S)) = some (.ok (.str "state"), S) := by kernel_rfl
theorem wd_value (S : Sto) : wdU (some (.err "NoValue", S)) = some (.ok (.str "value"), S) := by kernel_rfl
theorem wd_path (S : Sto) : wdU (some (.err "NoPath", S)) = some (.ok (.str "path"), S) := by kernel_rfl
theorem q_edit : uEq (.str "edit") (.str "edit") = some true := by kernel_rfl
def b63 : CB := (.cons (.ite (.cmp .ne (.call 22 (.cons (.var 1) (.cons (.var 3) .nil))) (.call 54 (.cons (.var 1) (.cons (.var 3) .nil)))) (.cons (.ret (.k (.bl false))) .nil) .nil) .nil)
theorem loop63 (d : Nat) (hd : 42 ≤ d) (S : Sto) (v : Va) (hv : Fresh 0 v) (x y : U) : ∀ (ps : List (List St)) (s3 : Wy.Slot), (∀ p ∈ ps, p ∈ paths v) → ∃ s3', forL (.n 3) (exB (R d) wdU b63) (ps.map encP) [.v x, .v (enc v), .v y, s3, .nil, .nil] S = some (.nx [.v x, .v (enc v), .v y, s3', .nil, .nil], S)
  | [], s3, _ => ⟨s3, rfl⟩
  | p :: ps, s3, h => by
    obtain ⟨s3', ih⟩ := loop63 d hd S v hv x y ps (.v (encP p)) fun q hq => h q (List.mem_cons_of_mem _ hq)
    refine ⟨s3', ?_⟩
    have hp := h p List.mem_cons_self
    have hpl := path_np (Nat.le_refl _) p hp
    obtain ⟨c, hc⟩ := part_paths (Nat.le_refl _) hp
    have h1 := part_at_ok v p S (by omega) (by omega) (by omega) d (by omega)
    have h2 := (Ev.of fun d => law_part_ok d S v p) d (by omega)
    rw [hc] at h1 h2
    have h3 : uEq (enc c) (enc c) = some true := uEq_self ((eqok_small (by have := lev_part hc; omega)).mono (by decide))
    have st : exB (R d) wdU b63 [.v x, .v (enc v), .v y, .v (encP p), .nil, .nil] S = some (.nx [.v x, .v (enc v), .v y, .v (encP p), .nil, .nil], S) := by
      simp [b63, exB, exS, evE, evEs, bindE, bindO, optO, pureO, nxS, slotU, asB, uc_ne, h1, h2, h3, optE]
    simp only [List.map_cons]
    conv => lhs; unfold forL
    simp only [setTg, List.set_cons_succ, List.set_cons_zero]
    rw [st]
    exact ih
theorem slc_lst {α : Type} (f : α → U) (xs : List α) : ∃ ys : List α, (∀ y ∈ ys, y ∈ xs) ∧ uSlc (.lst (xs.map f)) none (some 12) = some (.lst (ys.map f)) := by
  refine ⟨xs.take (HT.sIx (xs.map f).length (xs.map f).length (some 12)), fun y hy => List.mem_of_mem_take hy, ?_⟩
  show some (U.lst (cutU (xs.map f) none (some 12))) = _
  unfold cutU
  rw [HT.sIx_none]
  simp
theorem paths_right (v : Va) (hv : Fresh 0 v) (S : Sto) (hS : HandOk S) : ∃ S', HandOk S' ∧ Ev 43 63 [.ref 1, enc v] S (some (.ok (.bl true), S')) := by
  have hnp := np_nod _ v (Nat.le_refl _)
  obtain ⟨x, S1, a1, a2, a3⟩ := any_lst ((paths v).map encP) (by simp [paths_ne]) (by simp; unfold np at hnp; omega) S hS
  obtain ⟨p, hp, rfl⟩ := List.mem_map.mp a1
  have hpl := path_np (Nat.le_refl _) p hp
  obtain ⟨o, S2, b1, b2, b3, b4⟩ := value_draw 1 S1 a2
  have b3 : nod o ≤ 4 := by simpa [nb] using b3
  obtain ⟨c, hc⟩ := part_paths (Nat.le_refl _) hp
  have hlc : 1 ≤ lev c := by cases c <;> simp [lev]
  have hw : ∀ w, wth v p o = some w → Small w ∧ lev w ≤ 12 := fun w h => by
    have h1 := nod_wth h
    have h2 := lev_wth (m := 1) h hc (by omega)
    exact ⟨⟨by omega, by omega⟩, by omega⟩
  have hsv : Small v := ⟨by omega, by omega⟩
  have hso : Small o := ⟨by omega, by omega⟩
  refine ⟨S2, b1, ?_⟩
  refine Ev.body (k := 42) (c := c63) (ρ := [.v (.ref 1), .v (enc v), .nil, .nil, .nil, .nil]) rfl rfl rfl fun d hd => ?_
  have a3 := a3 d (by omega)
  have b4 : R d 51 [.ref 1, .int 1] S1 = some (.ok (enc o), S2) := b4 d (by omega)
  have f1 := law_paths_ok _ v S (Nat.le_refl _) (by omega) d (by omega)
  have f2 := all_paths_ok v S (by omega) (by omega) d (by omega)
  have f3 := given_ok v S hsv.1 hsv.2 d (by omega)
  have f4 := uEq_self (eqok_paths (paths v))
  obtain ⟨ys, hy, f5⟩ := slc_lst encP (paths v)
  obtain ⟨s3', f6⟩ := loop63 d hd S v hv (.ref 1) (.lst ((paths v).map encP)) ys .nil fun y h => hy y h
  have f7 : ∀ xs, uBlt S .list (.tup xs) = some (.lst xs) := fun _ => rfl
  have g1 := law_with_e p v o S2 (by rw [hc]; simp) (by omega) (by omega) d (by omega)
  have g2 := with_part_ok v p o S2 hsv hso (by omega) (fun w h => (hw w h).1) d (by omega)
  have g3 := with_part_none v c p o S2 hsv hso (by omega) hc d (by omega)
  have g4 : uBin .add (encP p) (.tup [.str ".none"]) = some (.tup (p.map encS ++ [.str ".none"])) := by
    have : p.length + 1 ≤ 1000000 := by omega
    simp [uBin, encP, uAdd, line, this]
  rw [show c63.body = .cons (.asg 2 (.call 55 (.cons (.var 1) .nil))) (.cons (.ite (.or (.cons (.cmp .ne (.blt .list (.call 23 (.cons (.var 1) .nil))) (.var 2)) (.cons (.notB true (.call 8 (.cons (.var 1) .nil))) .nil))) (.cons (.ret (.k (.bl false))) .nil) .nil) (.cons (.for_ (.n 3) (.seq (.slc (.var 2) .no (.so (.k (.int 12))))) b63) (.cons (.parO 3 4 (.call 50 (.cons (.var 0) (.cons (.var 2) .nil))) (.call 51 (.cons (.var 0) (.cons (.k (.int 1)) .nil)))) (.cons (.asg 5 (.call 56 (.cons (.var 1) (.cons (.var 3) (.cons (.var 4) .nil))))) (.cons (.ite (.isN (.var 5)) (.cons (.ret (.cmp .eq (.word (.call 33 (.cons (.var 1) (.cons (.var 3) (.cons (.var 4) .nil))))) (.k (.str "edit")))) .nil) .nil) (.cons (.ite (.or (.cons (.cmp .ne (.call 33 (.cons (.var 1) (.cons (.var 3) (.cons (.var 4) .nil)))) (.var 5)) (.cons (.cmp .ne (.call 22 (.cons (.var 5) (.cons (.var 3) .nil))) (.var 4)) .nil))) (.cons (.ret (.k (.bl false))) .nil) .nil) (.cons (.ret (.cmp .eq (.word (.call 33 (.cons (.var 1) (.cons (.bin .add (.var 3) (.tup (.cons (.k (.str ".none")) .nil))) (.cons (.var 4) .nil))))) (.k (.str "edit")))) .nil))))))) from rfl]
  cases hi : wth v p o with
  | none =>
    rw [hi] at g1 g2
    simp [endU, exB, exS, evE, evEs, evI, evO, evP, evOr, seqM, bindE, bindO, optO, pureO, nxS, slotU, slotP, asB, asI, line, uc_ne, uc_eq, f1, f2, f3, f4, f5, f6, f7, a3, b4, g1, g2, optE, isNonU_non, wd_edit, q_edit]
  | some w =>
    rw [hi] at g1 g2
    obtain ⟨hw1, hw2⟩ := hw w hi
    have g5 := part_at_ok w p S2 (by have := hw1.1; omega) (by omega) (by omega) d (by omega)
    rw [part_wth hi] at g5
    have g6 : uEq (enc w) (enc w) = some true := uEq_self ((eqok_small hw2).mono (by decide))
    have g7 : uEq (enc o) (enc o) = some true := uEq_self ((eqok_small hso.2).mono (by decide))
    simp [endU, exB, exS, evE, evEs, evI, evO, evP, evOr, seqM, bindE, bindO, optO, pureO, nxS, slotU, slotP, asB, asI, line, uc_ne, uc_eq, f1, f2, f3, f4, f5, f6, f7, a3, b4, g1, g2, g3, g4, g5, g6, g7, optE, isNonU_enc, wd_edit, q_edit]
end Pl
end
section
set_option maxRecDepth 100000
set_option maxHeartbeats 4000000
namespace Pl
open PySem Wy Core49
def toldS (s : V5) (n : Nm) (p : List St) : U := match s.get n with
  | none => .tup [.str "lacking"]
  | some v => match part v p with
    | none => .non
    | some w => headOf w
theorem e_given_spot : uEq (.str "given") (.str "spot") = some false := by kernel_rfl
theorem e_given_given : uEq (.str "given") (.str "given") = some true := by kernel_rfl
theorem e_given_choice : uEq (.str "given") (.str "choice") = some false := by kernel_rfl
theorem e_choice_spot : uEq (.str "choice") (.str "spot") = some false := by kernel_rfl
theorem e_choice_given : uEq (.str "choice") (.str "given") = some false := by kernel_rfl
theorem e_choice_choice : uEq (.str "choice") (.str "choice") = some true := by kernel_rfl
theorem isNonU_head (v : Va) : isNonU (headOf v) = false := by
  cases v with
  | lf l => cases l <;> rfl
  | lis vs => cases vs <;> rfl
  | _ => rfl
theorem raw_told_g (s : V5) (c : U) (n : Nm) (p : List St) (S : Sto) : Ev 3 46 [encV s, c, .tup [.str "given", encN n, encP p]] S (some (.ok (toldS s n p), S)) := by
  refine Ev.body (k := 2) (c := c46) (ρ := [.v (encV s), .v c, .v (.tup [.str "given", encN n, encP p]), .nil, .nil]) rfl rfl rfl fun d hd => ?_
  have h1 := value_by_ok s n S d (by omega)
  cases hg : s.get n with
  | none =>
    rw [hg] at h1
    simp [endU, evL_disp, exB, exS, evE, evEs, evO, evT, evP, evAnd, evOr, bindE, bindO, optO, pureO, nxS, optS, slotU, slotP, asB, asI, line, setTg, tup2, ownOf, appU, frzU, uIdx, seqOf, L2.atI, L2.ixN, isiU, uc_eq, uc_ne, uc_gt, uc_lt, uc_le, uc_ge, ul_tup, ul_lst, isNonU_non, isNonU_tup, isNonU_int, isNonU_enc, c46, e_given_spot, e_given_given, e_given_choice, h1, optE, toldS, hg]
  | some v =>
    rw [hg] at h1
    have h2 := (Ev.of fun d => raw_part_ok d S v p) d hd
    cases hp : part v p with
    | none =>
      rw [hp] at h2
      simp [endU, evL_disp, exB, exS, evE, evEs, evO, evT, evP, evAnd, evOr, bindE, bindO, optO, pureO, nxS, optS, slotU, slotP, asB, asI, line, setTg, tup2, ownOf, appU, frzU, uIdx, seqOf, L2.atI, L2.ixN, isiU, uc_eq, uc_ne, uc_gt, uc_lt, uc_le, uc_ge, ul_tup, ul_lst, isNonU_non, isNonU_tup, isNonU_int, isNonU_enc, c46, e_given_spot, e_given_given, e_given_choice, h1, h2, optE, toldS, hg, hp]
    | some w =>
      rw [hp] at h2
      have h3 := (Ev.of fun d => raw_head_ok d S w) d (by omega)
      simp [endU, evL_disp, exB, exS, evE, evEs, evO, evT, evP, evAnd, evOr, bindE, bindO, optO, pureO, nxS, optS, slotU, slotP, asB, asI, line, setTg, tup2, ownOf, appU, frzU, uIdx, seqOf, L2.atI, L2.ixN, isiU, uc_eq, uc_ne, uc_gt, uc_lt, uc_le, uc_ge, ul_tup, ul_lst, isNonU_non, isNonU_tup, isNonU_int, isNonU_enc, c46, e_given_spot, e_given_given, e_given_choice, h1, h2, h3, optE, toldS, hg, hp]
def toldC (c : S2) : U := match c.p with
  | none => .tup [.str "lacking"]
  | some i => .int i
theorem raw_told_c (s : U) (c : S2) (S : Sto) : Ev 2 46 [s, enc2 c, .tup [.str "choice", .str "p"]] S (some (.ok (toldC c), S)) := by
  refine Ev.body (k := 1) (c := c46) (ρ := [.v s, .v (enc2 c), .v (.tup [.str "choice", .str "p"]), .nil, .nil]) rfl rfl rfl fun d hd => ?_
  have h1 := value2 c .p S d hd
  have h1 : R d 45 [enc2 c, .str "p"] S = _ := h1
  have hcp : c.get .p = c.p := rfl
  rw [hcp] at h1
  cases hg : c.p with
  | none =>
    rw [hg] at h1
    simp [endU, evL_disp, exB, exS, evE, evEs, evO, evT, evP, evAnd, evOr, bindE, bindO, optO, pureO, nxS, optS, slotU, slotP, asB, asI, line, setTg, tup2, ownOf, appU, frzU, uIdx, seqOf, L2.atI, L2.ixN, isiU, uc_eq, uc_ne, uc_gt, uc_lt, uc_le, uc_ge, ul_tup, ul_lst, isNonU_non, isNonU_tup, isNonU_int, isNonU_enc, c46, e_choice_spot, e_choice_given, e_choice_choice, h1, optN, toldC, hg]
  | some v =>
    rw [hg] at h1
    simp [endU, evL_disp, exB, exS, evE, evEs, evO, evT, evP, evAnd, evOr, bindE, bindO, optO, pureO, nxS, optS, slotU, slotP, asB, asI, line, setTg, tup2, ownOf, appU, frzU, uIdx, seqOf, L2.atI, L2.ixN, isiU, uc_eq, uc_ne, uc_gt, uc_lt, uc_le, uc_ge, ul_tup, ul_lst, isNonU_non, isNonU_tup, isNonU_int, isNonU_enc, c46, e_choice_spot, e_choice_given, e_choice_choice, h1, optN, toldC, hg]
theorem told_ok' (t : Stt) (h : Ok t) (i u : U) (S : Sto) (hi : Ev 8 44 [i] S (some (.ok .non, S))) (hr : Ev 8 46 [encV t.s, enc2 t.c, i] S (some (.ok u, S))) : Ev 9 47 [encV t.s, enc2 t.c, i] S (some (.ok u, S)) := by
  refine Ev.body (k := 8) (c := c47) (ρ := [.v (encV t.s), .v (enc2 t.c), .v i]) rfl rfl rfl fun d hd => ?_
  have h1 := check_store_ok t.s S h d hd
  have h2 := check_choices_ok t.c S d (by omega)
  have h3 := hi d hd
  have h4 := hr d hd
  simp [endU, evL_disp, exB, exS, evE, evEs, evO, evT, evP, evAnd, evOr, bindE, bindO, optO, pureO, nxS, optS, slotU, slotP, asB, asI, line, setTg, tup2, ownOf, appU, frzU, uIdx, seqOf, L2.atI, L2.ixN, isiU, uc_eq, uc_ne, uc_gt, uc_lt, uc_le, uc_ge, ul_tup, ul_lst, isNonU_non, isNonU_tup, isNonU_int, isNonU_enc, c47, h1, h2, h3, h4]
def i64 : List (Nm × List St) := [(.a, []), (.b, [.fst]), (.c, [.m]), (.e, [])]
theorem item_ok (i : Nm × List St) (hi : i ∈ i64) (S : Sto) : Ev 8 44 [.tup [.str "given", encN i.1, encP i.2]] S (some (.ok .non, S)) := Ev.of fun d => by
  simp [i64] at hi
  rcases hi with rfl | rfl | rfl | rfl <;> kernel_rfl
theorem item_c (S : Sto) : Ev 8 44 [.tup [.str "choice", .str "p"]] S (some (.ok .non, S)) := Ev.of fun d => by kernel_rfl
theorem told_g (t : Stt) (h : Ok t) (i : Nm × List St) (hi : i ∈ i64) (S : Sto) : Ev 9 47 [encV t.s, enc2 t.c, .tup [.str "given", encN i.1, encP i.2]] S (some (.ok (toldS t.s i.1 i.2), S)) :=
  told_ok' t h _ _ S (item_ok i hi S) ((raw_told_g t.s (enc2 t.c) i.1 i.2 S).mono (by decide))
theorem told_c (t : Stt) (h : Ok t) (S : Sto) : Ev 9 47 [encV t.s, enc2 t.c, .tup [.str "choice", .str "p"]] S (some (.ok (toldC t.c), S)) :=
  told_ok' t h _ _ S (item_c S) ((raw_told_c (encV t.s) t.c S).mono (by decide))
theorem eqok_lack (n : Nat) : EqOk (n + 1) (.tup [.str "lacking"]) := .tup (.cons (eqok_str (by decide +kernel)) .nil)
theorem eqok_told (s : V5) (n : Nm) (p : List St) : EqOk 64 (toldS s n p) := by
  unfold toldS
  cases s.get n with
  | none => exact eqok_lack 63
  | some v =>
    simp only
    cases part v p with
    | none => exact eqok_non
    | some w => exact eqok_head w
theorem eqok_toldC (c : S2) : EqOk 64 (toldC c) := by
  unfold toldC
  cases c.p with
  | none => exact eqok_lack 63
  | some v => exact eqok_int
def b64 : CB := match c64.body with
  | .cons _ (.cons (.for_ _ _ b) _) => b
  | _ => .nil
def encJ (i : Nm × List St) : U := .tup [encN i.1, encP i.2]
theorem step64 (d : Nat) (hd : 9 ≤ d) (t : Stt) (h : Ok t) (i : Nm × List St) (hi : i ∈ i64) (x y : U) (s6 s7 s8 : Wy.Slot) (S : Sto) : ∃ s7' s8', exB (R d) wdU b64 [.v x, .v y, .v (encV t.s), .v (enc2 t.c), .v (encN i.1), .v (encP i.2), s6, s7, s8] S = some (.nx [.v x, .v y, .v (encV t.s), .v (enc2 t.c), .v (encN i.1), .v (encP i.2), s6, s7', s8'], S) := by
  have h1 := found_ok t.s i.1 S d (by omega)
  have h2 := told_g t h i hi S d hd
  have h3 := uEq_self (eqok_told t.s i.1 i.2)
  cases hg : t.s.get i.1 with
  | none =>
    rw [hg] at h1
    have ht : toldS t.s i.1 i.2 = .tup [.str "lacking"] := by simp [toldS, hg]
    rw [ht] at h2 h3
    exact ⟨_, _, by simp [endU, evL_disp, exB, exS, evE, evEs, evO, evT, evP, evAnd, evOr, bindE, bindO, optO, pureO, nxS, optS, slotU, slotP, asB, asI, line, setTg, tup2, ownOf, appU, frzU, uIdx, seqOf, L2.atI, L2.ixN, isiU, uc_eq, uc_ne, uc_gt, uc_lt, uc_le, uc_ge, ul_tup, ul_lst, isNonU_non, isNonU_tup, isNonU_int, isNonU_enc, b64, c64, h1, h2, h3, optE]; exact ⟨rfl, rfl⟩⟩
  | some v =>
    rw [hg] at h1
    have hv := h _ _ hg
    have h4 := (Ev.of fun d => law_part_ok d S v i.2) d (by omega)
    cases hp : part v i.2 with
    | none =>
      rw [hp] at h4
      have ht : toldS t.s i.1 i.2 = .non := by simp [toldS, hg, hp]
      rw [ht] at h2 h3
      exact ⟨_, _, by simp [endU, evL_disp, exB, exS, evE, evEs, evO, evT, evP, evAnd, evOr, bindE, bindO, optO, pureO, nxS, optS, slotU, slotP, asB, asI, line, setTg, tup2, ownOf, appU, frzU, uIdx, seqOf, L2.atI, L2.ixN, isiU, uc_eq, uc_ne, uc_gt, uc_lt, uc_le, uc_ge, ul_tup, ul_lst, isNonU_non, isNonU_tup, isNonU_int, isNonU_enc, b64, c64, h1, h2, h3, h4, optE]; exact ⟨rfl, rfl⟩⟩
    | some w =>
      rw [hp] at h4
      have ht : toldS t.s i.1 i.2 = headOf w := by simp [toldS, hg, hp]
      rw [ht] at h2 h3
      have h5 := head_of_ok w S (by have := nod_part hp; have := hv.1; omega) (by have := lev_part hp; have := hv.2; omega) d (by omega)
      exact ⟨_, _, by simp [endU, evL_disp, exB, exS, evE, evEs, evO, evT, evP, evAnd, evOr, bindE, bindO, optO, pureO, nxS, optS, slotU, slotP, asB, asI, line, setTg, tup2, ownOf, appU, frzU, uIdx, seqOf, L2.atI, L2.ixN, isiU, uc_eq, uc_ne, uc_gt, uc_lt, uc_le, uc_ge, ul_tup, ul_lst, isNonU_non, isNonU_tup, isNonU_int, isNonU_enc, b64, c64, h1, h2, h3, h4, h5, optE]; exact ⟨rfl, rfl⟩⟩
theorem loop64 (d : Nat) (hd : 9 ≤ d) (t : Stt) (h : Ok t) (x y : U) (S : Sto) (s6 : Wy.Slot) : ∀ (is : List (Nm × List St)) (s4 s5 s7 s8 : Wy.Slot), (∀ i ∈ is, i ∈ i64) → ∃ s4' s5' s7' s8', forL (.t2 4 5) (exB (R d) wdU b64) (is.map encJ) [.v x, .v y, .v (encV t.s), .v (enc2 t.c), s4, s5, s6, s7, s8] S = some (.nx [.v x, .v y, .v (encV t.s), .v (enc2 t.c), s4', s5', s6, s7', s8'], S)
  | [], s4, s5, s7, s8, _ => ⟨s4, s5, s7, s8, rfl⟩
  | i :: is, s4, s5, s7, s8, hi => by
    obtain ⟨s7', s8', st⟩ := step64 d hd t h i (hi i List.mem_cons_self) x y s6 s7 s8 S
    obtain ⟨a, b, c, e, ih⟩ := loop64 d hd t h x y S s6 is (.v (encN i.1)) (.v (encP i.2)) s7' s8' fun j hj => hi j (List.mem_cons_of_mem _ hj)
    refine ⟨a, b, c, e, ?_⟩
    simp only [List.map_cons]
    conv => lhs; unfold forL
    simp only [setTg, encJ, tup2, Option.map_some, List.set_cons_succ, List.set_cons_zero]
    rw [st]
    exact ih
theorem is_told_right (t : Stt) (h : Ok t) (S : Sto) : Ev 10 64 [encT t, .lst (i64.map encJ)] S (some (.ok (.bl true), S)) := by
  refine Ev.body (k := 9) (c := c64) (ρ := [.v (encT t), .v (.lst (i64.map encJ)), .nil, .nil, .nil, .nil, .nil, .nil, .nil]) rfl rfl rfl fun d hd => ?_
  obtain ⟨a, b, c, e, hl⟩ := loop64 d hd t h (encT t) (.lst (i64.map encJ)) S .nil i64 .nil .nil .nil .nil fun i hi => hi
  have h1 := found2 t.c .p S d (by omega)
  have h1 : R d 57 [enc2 t.c, .str "p"] S = some (.ok (optN t.c.p), S) := h1
  have h2 := told_c t h S d hd
  have h3 := uEq_self (eqok_toldC t.c)
  have hu : setTg (.t2 2 3) (encT t) = fun ρ => some ((ρ.set 2 (.v (encV t.s))).set 3 (.v (enc2 t.c))) := rfl
  rw [show c64.body = .cons (.unp (.t2 2 3) (.var 0)) (.cons (.for_ (.t2 4 5) (.seq (.var 1)) b64) (.cons (.asg 6 (.call 57 (.cons (.var 3) (.cons (.k (.str "p")) .nil)))) (.cons (.ret (.cmp .eq (.call 47 (.cons (.var 2) (.cons (.var 3) (.cons (.tup (.cons (.k (.str "choice")) (.cons (.k (.str "p")) .nil))) .nil)))) (.ite (.isN (.var 6)) (.tup (.cons (.k (.str "lacking")) .nil)) (.var 6)))) .nil))) from rfl]
  have hs : seqM (.lst (i64.map encJ)) S = some (.ok (i64.map encJ), S) := rfl
  cases hp : t.c.p with
  | none =>
    have ht : toldC t.c = .tup [.str "lacking"] := by simp [toldC, hp]
    rw [ht] at h2 h3
    rw [hp] at h1
    simp [endU, exB, exS, evE, evEs, evI, bindE, bindO, optO, pureO, nxS, optS, slotU, asB, line, uc_eq, hu, hs, hl, h1, h2, h3, optN, isNonU_non]
  | some i =>
    have ht : toldC t.c = .int i := by simp [toldC, hp]
    rw [ht] at h2 h3
    rw [hp] at h1
    simp [endU, exB, exS, evE, evEs, evI, bindE, bindO, optO, pureO, nxS, optS, slotU, asB, line, uc_eq, hu, hs, hl, h1, h2, h3, optN, isNonU_int]
theorem edits_eq : uEq (.lst [.str "edit", .str "edit"]) (.lst [.str "edit", .str "edit"]) = some true := by kernel_rfl
theorem uEq_bl (a b : Bool) : uEq (.bl a) (.bl b) = some (decide (a = b)) := by cases a <;> cases b <;> kernel_rfl
theorem edit_right (t : Stt) (e : Ed) (x : U) (S : Sto) (g : Good t e) : Ev 44 65 [x, encT t, encE e] S (some (.ok (.bl true), S)) := by
  refine Ev.body (k := 43) (c := c65) (ρ := [.v x, .v (encT t), .v (encE e), .nil, .nil, .nil]) rfl rfl rfl fun d hd => ?_
  have h1 := law_edited_ok t e S g d hd
  have h2 := is_edit_ok t e S g d (by omega)
  have h3 := edited_ok t e S g d (by omega)
  have h4 := edit_back_ok t e S g d (by omega)
  cases hi : edS t e with
  | none =>
    rw [hi] at h1 h2 h3 h4
    simp [endU, evL_disp, exB, exS, evE, evEs, bindE, bindO, optO, pureO, nxS, slotU, ownOf, appU, frzU, asB, line, c65, uc_ne, uc_eq, uEq_bl, h1, h2, h3, h4, optT, isNonU_non, wd_edit, edits_eq]
  | some t' =>
    rw [hi] at h1 h2 h3 h4
    have gb := good_back g hi
    have hb := back_ed hi
    have hok := g.r t' hi
    have h5 := law_back_ok t t' e S hi d (by omega)
    have h6 := edited_ok t' (backS t e) S gb d (by omega)
    have h7 := law_edited_ok t' (backS t e) S gb d hd
    rw [hb] at h6 h7
    have h8 := is_state_ok t' S hok d (by omega)
    have q1 := uEq_self (eqok_T hok)
    have q2 := uEq_self (eqok_T g.ok)
    have q3 := uEq_self (eqok_E gb.v)
    simp [endU, evL_disp, exB, exS, evE, evEs, evOr, evAnd, bindE, bindO, optO, pureO, nxS, slotU, asB, line, c65, uc_ne, uc_eq, uEq_bl, h1, h2, h3, h4, h5, h6, h7, h8, q1, q2, q3, optT, isNonU_T]
end Pl
end
section
set_option maxRecDepth 100000
set_option maxHeartbeats 4000000
namespace Pl
open PySem Wy Core49
/-! what is no state -/
def NoSt (u : U) : Prop := ∀ S, Ev 9 24 [u] S (some (.ok (.bl false), S))
def none66 (t : Stt) : List U := [.non, .tup [], .tup [encV t.s], .lst [.tup [], .tup []], .tup [encV t.s, .lst [.tup [.str "p", .int 1]]], .tup [.tup [.tup [.str "a", .tup [.str "fault", .str "x"]]], .tup []], .str "?"]
theorem nost66 (t : Stt) (h : Ok t) : ∀ u ∈ none66 t, NoSt u := by
  intro u hu
  simp only [none66, List.mem_cons, List.not_mem_nil, or_false] at hu
  rcases hu with rfl | rfl | rfl | rfl | rfl | rfl | rfl <;> intro S
  · exact Ev.of fun d => by kernel_rfl
  · exact Ev.of fun d => by kernel_rfl
  · exact Ev.of fun d => by kernel_rfl
  · exact Ev.of fun d => by kernel_rfl
  · refine Ev.body (k := 8) (c := c24) (ρ := [.v (.tup [encV t.s, .lst [.tup [.str "p", .int 1]]])]) rfl rfl rfl fun d hd => ?_
    have h1 := is_store_ok t.s S h d (by omega)
    have h2 : R d 10 [.lst [.tup [.str "p", .int 1]]] S = some (.ok (.bl false), S) := (Ev.of (k := 2) (r := some (.ok (.bl false), S)) fun d => by kernel_rfl) d (by omega)
    have e6 : uEq (.int 2) (.int 2) = some true := by kernel_rfl
    simp [endU, evL_disp, exB, exS, evE, evEs, evO, evT, evP, evAnd, evOr, bindE, bindO, optO, pureO, nxS, optS, slotU, slotP, asB, asI, line, setTg, tup2, ownOf, appU, frzU, uIdx, seqOf, L2.atI, L2.ixN, isiU, uc_eq, uc_ne, uc_gt, uc_lt, uc_le, uc_ge, ul_tup, ul_lst, isNonU_non, isNonU_tup, isNonU_int, isNonU_enc, c24, h1, h2, e6]
  · exact Ev.of fun d => by kernel_rfl
  · exact Ev.of fun d => by kernel_rfl
theorem nost_check {u : U} (h : NoSt u) (S : Sto) : Ev 10 25 [u] S (some (.err "NoState", S)) := by
  refine Ev.body (k := 9) (c := c25) (ρ := [.v u]) rfl rfl rfl fun d hd => ?_
  have h1 := h S d hd
  simp [endU, evL_disp, exB, exS, evE, evEs, evO, evT, evP, evAnd, evOr, bindE, bindO, optO, pureO, nxS, optS, slotU, slotP, asB, asI, line, setTg, tup2, ownOf, appU, frzU, uIdx, seqOf, L2.atI, L2.ixN, isiU, uc_eq, uc_ne, uc_gt, uc_lt, uc_le, uc_ge, ul_tup, ul_lst, isNonU_non, isNonU_tup, isNonU_int, isNonU_enc, c25, h1]
theorem nost_is_edit {u : U} (h : NoSt u) (b : U) (S : Sto) : Ev 11 39 [u, b] S (some (.err "NoState", S)) := by
  refine Ev.body (k := 10) (c := c39) (ρ := [.v u, .v b]) rfl rfl rfl fun d hd => ?_
  have h1 := nost_check h S d hd
  simp [endU, evL_disp, exB, exS, evE, evEs, evO, evT, evP, evAnd, evOr, bindE, bindO, optO, pureO, nxS, optS, slotU, slotP, asB, asI, line, setTg, tup2, ownOf, appU, frzU, uIdx, seqOf, L2.atI, L2.ixN, isiU, uc_eq, uc_ne, uc_gt, uc_lt, uc_le, uc_ge, ul_tup, ul_lst, isNonU_non, isNonU_tup, isNonU_int, isNonU_enc, c39, h1]
theorem nost_edited {u : U} (h : NoSt u) (b : U) (S : Sto) : Ev 11 40 [u, b] S (some (.err "NoState", S)) := by
  refine Ev.body (k := 10) (c := c40) (ρ := [.v u, .v b, .nil]) rfl rfl rfl fun d hd => ?_
  have h1 := nost_check h S d hd
  simp [endU, evL_disp, exB, exS, evE, evEs, evO, evT, evP, evAnd, evOr, bindE, bindO, optO, pureO, nxS, optS, slotU, slotP, asB, asI, line, setTg, tup2, ownOf, appU, frzU, uIdx, seqOf, L2.atI, L2.ixN, isiU, uc_eq, uc_ne, uc_gt, uc_lt, uc_le, uc_ge, ul_tup, ul_lst, isNonU_non, isNonU_tup, isNonU_int, isNonU_enc, c40, h1]
/-! what is no edit -/
def Bad (t : Stt) (b : U) : Prop := ∀ S, Ev 11 38 [encT t, b] S (some (.ok .non, S))
theorem bad_is {t : Stt} (ht : Ok t) {b : U} (h : Bad t b) (S : Sto) : Ev 12 39 [encT t, b] S (some (.ok (.bl false), S)) := by
  refine Ev.body (k := 11) (c := c39) (ρ := [.v (encT t), .v b]) rfl rfl rfl fun d hd => ?_
  have h1 := check_state_ok t S ht d (by omega)
  have h2 := h S d hd
  simp [endU, evL_disp, exB, exS, evE, evEs, evO, evT, evP, evAnd, evOr, bindE, bindO, optO, pureO, nxS, optS, slotU, slotP, asB, asI, line, setTg, tup2, ownOf, appU, frzU, uIdx, seqOf, L2.atI, L2.ixN, isiU, uc_eq, uc_ne, uc_gt, uc_lt, uc_le, uc_ge, ul_tup, ul_lst, isNonU_non, isNonU_tup, isNonU_int, isNonU_enc, c39, h1, h2]
theorem bad_edited {t : Stt} (ht : Ok t) {b : U} (h : Bad t b) (S : Sto) : Ev 12 40 [encT t, b] S (some (.err "NoEdit", S)) := by
  refine Ev.body (k := 11) (c := c40) (ρ := [.v (encT t), .v b, .nil]) rfl rfl rfl fun d hd => ?_
  have h1 := check_state_ok t S ht d (by omega)
  have h2 := h S d hd
  simp [endU, evL_disp, exB, exS, evE, evEs, evO, evT, evP, evAnd, evOr, bindE, bindO, optO, pureO, nxS, optS, slotU, slotP, asB, asI, line, setTg, tup2, ownOf, appU, frzU, uIdx, seqOf, L2.atI, L2.ixN, isiU, uc_eq, uc_ne, uc_gt, uc_lt, uc_le, uc_ge, ul_tup, ul_lst, isNonU_non, isNonU_tup, isNonU_int, isNonU_enc, c40, h1, h2]
theorem bad_back {t : Stt} (ht : Ok t) {b : U} (h : Bad t b) (S : Sto) : Ev 12 42 [encT t, b] S (some (.err "NoEdit", S)) := by
  refine Ev.body (k := 11) (c := c42) (ρ := [.v (encT t), .v b, .nil]) rfl rfl rfl fun d hd => ?_
  have h1 := check_state_ok t S ht d (by omega)
  have h2 := h S d hd
  simp [endU, evL_disp, exB, exS, evE, evEs, evO, evT, evP, evAnd, evOr, bindE, bindO, optO, pureO, nxS, optS, slotU, slotP, asB, asI, line, setTg, tup2, ownOf, appU, frzU, uIdx, seqOf, L2.atI, L2.ixN, isiU, uc_eq, uc_ne, uc_gt, uc_lt, uc_le, uc_ge, ul_tup, ul_lst, isNonU_non, isNonU_tup, isNonU_int, isNonU_enc, c42, h1, h2]
theorem bad_form (t : Stt) {b : U} (h : ∀ S, Ev 5 35 [b] S (some (.ok (.bl false), S))) : Bad t b := fun S => by
  refine Ev.body (k := 10) (c := c38) (ρ := [.v (encT t), .v b]) rfl rfl rfl fun d hd => ?_
  have h1 := h S d (by omega)
  simp [endU, evL_disp, exB, exS, evE, evEs, evO, evT, evP, evAnd, evOr, bindE, bindO, optO, pureO, nxS, optS, slotU, slotP, asB, asI, line, setTg, tup2, ownOf, appU, frzU, uIdx, seqOf, L2.atI, L2.ixN, isiU, uc_eq, uc_ne, uc_gt, uc_lt, uc_le, uc_ge, ul_tup, ul_lst, isNonU_non, isNonU_tup, isNonU_int, isNonU_enc, c38, h1]
theorem bad_raw (t : Stt) {b : U} (h : ∀ S, Ev 5 35 [b] S (some (.ok (.bl true), S))) (hr : ∀ S, Ev 10 37 [encT t, b] S (some (.ok .non, S))) : Bad t b := fun S => by
  refine Ev.body (k := 10) (c := c38) (ρ := [.v (encT t), .v b]) rfl rfl rfl fun d hd => ?_
  have h1 := h S d (by omega)
  have h2 := hr S d hd
  simp [endU, evL_disp, exB, exS, evE, evEs, evO, evT, evP, evAnd, evOr, bindE, bindO, optO, pureO, nxS, optS, slotU, slotP, asB, asI, line, setTg, tup2, ownOf, appU, frzU, uIdx, seqOf, L2.atI, L2.ixN, isiU, uc_eq, uc_ne, uc_gt, uc_lt, uc_le, uc_ge, ul_tup, ul_lst, isNonU_non, isNonU_tup, isNonU_int, isNonU_enc, c38, h1, h2]
/-- put what is no given value -/
theorem bools_bl : ∀ xs : List (U × Bool), bools (xs.map fun x => U.bl x.2) = some (xs.map (·.2))
  | [] => rfl
  | x :: xs => by simp [bools, bools_bl xs]
theorem bad_put (t : Stt) (ht : Ok t) (u : U) (hu : ∀ S, Ev 6 8 [u] S (some (.ok (.bl false), S))) (hf : ∀ S, Ev 5 35 [.tup [.str "put", .str "a", u]] S (some (.ok (.bl true), S))) : Bad t (.tup [.str "put", .str "a", u]) := by
  refine bad_raw t hf fun S => ?_
  refine Ev.body (k := 9) (c := c37) (ρ := [.v (encT t), .v (.tup [.str "put", .str "a", u]), .nil, .nil, .nil, .nil, .nil, .nil]) rfl rfl rfl fun d hd => ?_
  have e0 : encT t = .tup [encV t.s, enc2 t.c] := rfl
  have h1 := with5 t.s.u .a u S d (by omega)
  have h1 : R d 27 [encV t.s, .str "a", u] S = _ := h1
  have hs : Ev 7 9 [enc5 (t.s.u.set .a (some u))] S (some (.ok (.bl false), S)) := by
    refine Ev.body (k := 6) (c := c9) (ρ := [.v (enc5 (t.s.u.set .a (some u))), .nil]) rfl rfl rfl fun d hd => ?_
    have g1 := named5 (t.s.u.set .a (some u)) S d (by omega)
    let rest : V5 := ⟨none, t.s.b, t.s.c, t.s.d, t.s.e⟩
    have hl : enc5 (t.s.u.set .a (some u)) = .tup (((.tup [.str "a", u], false) :: (items rest).map fun i => (encI i, true)).map (·.1)) := by
      simp only [List.map_cons, List.map_map, Function.comp_def]
      rw [← list_items]
      rfl
    have hin : ∀ i ∈ items rest, Small i.2 := fun i hi => by
      have := items_get hi
      have hg : t.s.get i.1 = some i.2 := by
        obtain ⟨n, v⟩ := i
        cases n
        · cases this
        all_goals exact this
      exact ht _ _ hg
    have hc := comp_map (fn := R d) (elt := .call 8 (.cons (.sub (.var 1) (.k (.int 1))) .nil)) (tg := .n 1) (it := .seq (.var 0)) (own := [("pair", 1)]) (S := S) (xs := (.tup [.str "a", u], false) :: (items rest).map fun i => (encI i, true))
      (ρ := [.v (enc5 (t.s.u.set .a (some u))), .nil]) (·.1) (fun x => .bl x.2) (by rw [hl]; simp [endU, evL_disp, exB, exS, evE, evEs, evO, evT, evP, evAnd, evOr, bindE, bindO, optO, pureO, nxS, optS, slotU, slotP, isiU, asB, asI, isNonU, uIdx, uSlc, seqOf, seqM, L2.atI, L2.ixN, uCmp, uBin, uAdd, uBlt, line, setTg, tup2, ownLen, ownOf, popM, augM, appU, extU, lstOf, frzU, evL, evI]) (by have := items_len rest; simp [line]; omega) fun y hy => ⟨_, rfl, by
        rcases List.mem_cons.mp hy with rfl | hy
        · have := hu S d (by omega)
          simp [endU, evL_disp, exB, exS, evE, evEs, evO, evT, evP, evAnd, evOr, bindE, bindO, optO, pureO, nxS, optS, slotU, slotP, isiU, asB, asI, isNonU, uIdx, uSlc, seqOf, seqM, L2.atI, L2.ixN, uCmp, uBin, uAdd, uBlt, line, setTg, tup2, ownLen, ownOf, popM, augM, appU, extU, lstOf, frzU, evL, evI, wipeU, this]
        · obtain ⟨i, hi, rfl⟩ := List.mem_map.mp hy
          have hs := hin i hi
          have := given_ok i.2 S hs.1 hs.2 d (by omega)
          simp [endU, evL_disp, exB, exS, evE, evEs, evO, evT, evP, evAnd, evOr, bindE, bindO, optO, pureO, nxS, optS, slotU, slotP, isiU, asB, asI, isNonU, uIdx, uSlc, seqOf, seqM, L2.atI, L2.ixN, uCmp, uBin, uAdd, uBlt, line, setTg, tup2, ownLen, ownOf, popM, augM, appU, extU, lstOf, frzU, evL, evI, wipeU, encI, this]⟩
    have ha : ∀ xs : List (U × Bool), uBlt S .all (.lst (((.tup [.str "a", u], false) :: xs).map fun x => U.bl x.2)) = some (.bl false) := fun xs => by
      simp only [uBlt, bools_bl, Option.map_some]
      simp
    have ha := ha ((items rest).map fun i => (encI i, true))
    simp only [endU, exB, exS, evE, evEs, evAnd, bindE, bindO, optO, pureO, nxS, slotU, asB, c9, g1, hc, ha, List.getElem?_cons_zero, Option.map_some]
  have h2 : R d 24 [.tup [enc5 (t.s.u.set .a (some u)), enc2 t.c]] S = some (.ok (.bl false), S) := by
    have : Ev 8 24 [.tup [enc5 (t.s.u.set .a (some u)), enc2 t.c]] S (some (.ok (.bl false), S)) := by
      refine Ev.body (k := 7) (c := c24) (ρ := [.v (.tup [enc5 (t.s.u.set .a (some u)), enc2 t.c])]) rfl rfl rfl fun d hd => ?_
      have h1 := hs d hd
      have e6 : uEq (.int 2) (.int 2) = some true := by kernel_rfl
      simp [endU, evL_disp, exB, exS, evE, evEs, evO, evT, evP, evAnd, evOr, bindE, bindO, optO, pureO, nxS, optS, slotU, slotP, asB, asI, line, setTg, tup2, ownOf, appU, frzU, uIdx, seqOf, L2.atI, L2.ixN, isiU, uc_eq, uc_ne, uc_gt, uc_lt, uc_le, uc_ge, ul_tup, ul_lst, isNonU_non, isNonU_tup, isNonU_int, isNonU_enc, c24, h1, e6]
    exact this d (by omega)
  simp [endU, evL_disp, exB, exS, evE, evEs, evO, evT, evP, evAnd, evOr, bindE, bindO, optO, pureO, nxS, optS, slotU, slotP, asB, asI, line, setTg, tup2, ownOf, appU, frzU, uIdx, seqOf, L2.atI, L2.ixN, isiU, uc_eq, uc_ne, uc_gt, uc_lt, uc_le, uc_ge, ul_tup, ul_lst, isNonU_non, isNonU_tup, isNonU_int, isNonU_enc, wq_put_put, wq_put_drop, wq_put_part, wq_put_ahead, wq_put_cut, wq_put_choose, wq_put_unchoose, wq_drop_put, wq_drop_drop, wq_drop_part, wq_drop_ahead, wq_drop_cut, wq_drop_choose, wq_drop_unchoose, wq_part_put, wq_part_drop, wq_part_part, wq_part_ahead, wq_part_cut, wq_part_choose, wq_part_unchoose, wq_ahead_put, wq_ahead_drop, wq_ahead_part, wq_ahead_ahead, wq_ahead_cut, wq_ahead_choose, wq_ahead_unchoose, wq_cut_put, wq_cut_drop, wq_cut_part, wq_cut_ahead, wq_cut_cut, wq_cut_choose, wq_cut_unchoose, wq_choose_put, wq_choose_drop, wq_choose_part, wq_choose_ahead, wq_choose_cut, wq_choose_choose, wq_choose_unchoose, wq_unchoose_put, wq_unchoose_drop, wq_unchoose_part, wq_unchoose_ahead, wq_unchoose_cut, wq_unchoose_choose, wq_unchoose_unchoose, wi_put_drop_unchoose, wi_drop_drop_unchoose, wi_part_drop_unchoose, wi_ahead_drop_unchoose, wi_cut_drop_unchoose, wi_choose_drop_unchoose, wi_unchoose_drop_unchoose, wi_put_choose_unchoose, wi_drop_choose_unchoose, wi_part_choose_unchoose, wi_ahead_choose_unchoose, wi_cut_choose_unchoose, wi_choose_choose_unchoose, wi_unchoose_choose_unchoose, wi_put_put_drop, wi_drop_put_drop, wi_part_put_drop, wi_ahead_put_drop, wi_cut_put_drop, wi_choose_put_drop, wi_unchoose_put_drop, c37, e0, h1, h2]
end Pl
end
section
set_option maxRecDepth 100000
set_option maxHeartbeats 4000000
namespace Pl
open PySem Wy Core49
def badsA : List U := [.non, .tup [], .str "?", .tup [.str "put"], .tup [.str "put", .str "A", .int 1], .tup [.str "put", .str "a", .tup [.str "fault", .str "x"]], .lst [.str "drop", .str "a"], .tup [.str "drop", .str "zz"]]
def badsB : List U := [.tup [.str "cut", .str "a"], .tup [.str "part", .str "zz", .tup [], .int 1], .tup [.str "choose", .str "p", .int (-1)], .tup [.str "choose", .str "p", .bl true]]
def badsC : List U := [.tup [.str "unchoose", .str "zz"], .tup [.str "ahead", .str "zz", .tup [], .int 1]]
def badN (n : Nm) : U := .tup [.str "part", encN n, .tup [.str ".none"], .int 1]
def badsE : List U := [.tup [.str "choose", .str "", .int 1], .tup [.str "put", .str "a", .non], .tup [.str "part", .str "a", .tup [.str "?"], .int 1], .tup [.int 1, .int 2], .emp]
def badsL (t : Stt) : List U := ((badsA ++ badsB) ++ badsC) ++ (items t.s).map fun i => badN i.1
theorem bad_zz (t : Stt) : Bad t (.tup [.str "drop", .str "zz"]) ∧ Bad t (.tup [.str "part", .str "zz", .tup [], .int 1]) ∧ Bad t (.tup [.str "unchoose", .str "zz"]) ∧ Bad t (.tup [.str "ahead", .str "zz", .tup [], .int 1]) := by
  have e0 : encT t = .tup [encV t.s, enc2 t.c] := rfl
  have hz : ∀ d S, 1 ≤ d → R d 29 [encV t.s, .str "zz"] S = some (.ok .non, S) := fun d S h => under5zz t.s.u S d h
  have hc : ∀ d S, 1 ≤ d → R d 29 [enc2 t.c, .str "zz"] S = some (.ok .non, S) := fun d S h => under2zz t.c S d h
  have hn : ∀ (w : Str) d S, 2 ≤ d → R d 36 [encV t.s, .tup [.str w, .str "zz", .tup [], .int 1]] S = some (.ok .non, S) := fun w d S h => by
    have : Ev 2 36 [encV t.s, .tup [.str w, .str "zz", .tup [], .int 1]] S (some (.ok .non, S)) := by
      refine Ev.body (k := 1) (c := c36) (ρ := [.v (encV t.s), .v (.tup [.str w, .str "zz", .tup [], .int 1]), .nil, .nil]) rfl rfl rfl fun d hd => ?_
      have h1 := hz d S hd
      simp [endU, evL_disp, exB, exS, evE, evEs, evO, evT, evP, evAnd, evOr, bindE, bindO, optO, pureO, nxS, optS, slotU, slotP, asB, asI, line, setTg, tup2, ownOf, appU, frzU, uIdx, seqOf, L2.atI, L2.ixN, isiU, uc_eq, uc_ne, uc_gt, uc_lt, uc_le, uc_ge, ul_tup, ul_lst, isNonU_non, isNonU_tup, isNonU_int, isNonU_enc, c36, h1]
    exact this d h
  refine ⟨bad_raw t (fun S => Ev.of fun d => by kernel_rfl) fun S => ?_, bad_raw t (fun S => Ev.of fun d => by kernel_rfl) fun S => ?_, bad_raw t (fun S => Ev.of fun d => by kernel_rfl) fun S => ?_, bad_raw t (fun S => Ev.of fun d => by kernel_rfl) fun S => ?_⟩
  · refine Ev.body (k := 9) (c := c37) (ρ := [.v (encT t), .v (.tup [.str "drop", .str "zz"]), .nil, .nil, .nil, .nil, .nil, .nil]) rfl rfl rfl fun d hd => ?_
    have h1 := hz d S (by omega)
    simp [endU, evL_disp, exB, exS, evE, evEs, evO, evT, evP, evAnd, evOr, bindE, bindO, optO, pureO, nxS, optS, slotU, slotP, asB, asI, line, setTg, tup2, ownOf, appU, frzU, uIdx, seqOf, L2.atI, L2.ixN, isiU, uc_eq, uc_ne, uc_gt, uc_lt, uc_le, uc_ge, ul_tup, ul_lst, isNonU_non, isNonU_tup, isNonU_int, isNonU_enc, wq_put_put, wq_put_drop, wq_put_part, wq_put_ahead, wq_put_cut, wq_put_choose, wq_put_unchoose, wq_drop_put, wq_drop_drop, wq_drop_part, wq_drop_ahead, wq_drop_cut, wq_drop_choose, wq_drop_unchoose, wq_part_put, wq_part_drop, wq_part_part, wq_part_ahead, wq_part_cut, wq_part_choose, wq_part_unchoose, wq_ahead_put, wq_ahead_drop, wq_ahead_part, wq_ahead_ahead, wq_ahead_cut, wq_ahead_choose, wq_ahead_unchoose, wq_cut_put, wq_cut_drop, wq_cut_part, wq_cut_ahead, wq_cut_cut, wq_cut_choose, wq_cut_unchoose, wq_choose_put, wq_choose_drop, wq_choose_part, wq_choose_ahead, wq_choose_cut, wq_choose_choose, wq_choose_unchoose, wq_unchoose_put, wq_unchoose_drop, wq_unchoose_part, wq_unchoose_ahead, wq_unchoose_cut, wq_unchoose_choose, wq_unchoose_unchoose, wi_put_drop_unchoose, wi_drop_drop_unchoose, wi_part_drop_unchoose, wi_ahead_drop_unchoose, wi_cut_drop_unchoose, wi_choose_drop_unchoose, wi_unchoose_drop_unchoose, wi_put_choose_unchoose, wi_drop_choose_unchoose, wi_part_choose_unchoose, wi_ahead_choose_unchoose, wi_cut_choose_unchoose, wi_choose_choose_unchoose, wi_unchoose_choose_unchoose, wi_put_put_drop, wi_drop_put_drop, wi_part_put_drop, wi_ahead_put_drop, wi_cut_put_drop, wi_choose_put_drop, wi_unchoose_put_drop, c37, e0, h1]
  · refine Ev.body (k := 9) (c := c37) (ρ := [.v (encT t), .v (.tup [.str "part", .str "zz", .tup [], .int 1]), .nil, .nil, .nil, .nil, .nil, .nil]) rfl rfl rfl fun d hd => ?_
    have h1 := hn "part" d S (by omega)
    simp [endU, evL_disp, exB, exS, evE, evEs, evO, evT, evP, evAnd, evOr, bindE, bindO, optO, pureO, nxS, optS, slotU, slotP, asB, asI, line, setTg, tup2, ownOf, appU, frzU, uIdx, seqOf, L2.atI, L2.ixN, isiU, uc_eq, uc_ne, uc_gt, uc_lt, uc_le, uc_ge, ul_tup, ul_lst, isNonU_non, isNonU_tup, isNonU_int, isNonU_enc, wq_put_put, wq_put_drop, wq_put_part, wq_put_ahead, wq_put_cut, wq_put_choose, wq_put_unchoose, wq_drop_put, wq_drop_drop, wq_drop_part, wq_drop_ahead, wq_drop_cut, wq_drop_choose, wq_drop_unchoose, wq_part_put, wq_part_drop, wq_part_part, wq_part_ahead, wq_part_cut, wq_part_choose, wq_part_unchoose, wq_ahead_put, wq_ahead_drop, wq_ahead_part, wq_ahead_ahead, wq_ahead_cut, wq_ahead_choose, wq_ahead_unchoose, wq_cut_put, wq_cut_drop, wq_cut_part, wq_cut_ahead, wq_cut_cut, wq_cut_choose, wq_cut_unchoose, wq_choose_put, wq_choose_drop, wq_choose_part, wq_choose_ahead, wq_choose_cut, wq_choose_choose, wq_choose_unchoose, wq_unchoose_put, wq_unchoose_drop, wq_unchoose_part, wq_unchoose_ahead, wq_unchoose_cut, wq_unchoose_choose, wq_unchoose_unchoose, wi_put_drop_unchoose, wi_drop_drop_unchoose, wi_part_drop_unchoose, wi_ahead_drop_unchoose, wi_cut_drop_unchoose, wi_choose_drop_unchoose, wi_unchoose_drop_unchoose, wi_put_choose_unchoose, wi_drop_choose_unchoose, wi_part_choose_unchoose, wi_ahead_choose_unchoose, wi_cut_choose_unchoose, wi_choose_choose_unchoose, wi_unchoose_choose_unchoose, wi_put_put_drop, wi_drop_put_drop, wi_part_put_drop, wi_ahead_put_drop, wi_cut_put_drop, wi_choose_put_drop, wi_unchoose_put_drop, c37, e0, h1]
  · refine Ev.body (k := 9) (c := c37) (ρ := [.v (encT t), .v (.tup [.str "unchoose", .str "zz"]), .nil, .nil, .nil, .nil, .nil, .nil]) rfl rfl rfl fun d hd => ?_
    have h1 := hc d S (by omega)
    simp [endU, evL_disp, exB, exS, evE, evEs, evO, evT, evP, evAnd, evOr, bindE, bindO, optO, pureO, nxS, optS, slotU, slotP, asB, asI, line, setTg, tup2, ownOf, appU, frzU, uIdx, seqOf, L2.atI, L2.ixN, isiU, uc_eq, uc_ne, uc_gt, uc_lt, uc_le, uc_ge, ul_tup, ul_lst, isNonU_non, isNonU_tup, isNonU_int, isNonU_enc, wq_put_put, wq_put_drop, wq_put_part, wq_put_ahead, wq_put_cut, wq_put_choose, wq_put_unchoose, wq_drop_put, wq_drop_drop, wq_drop_part, wq_drop_ahead, wq_drop_cut, wq_drop_choose, wq_drop_unchoose, wq_part_put, wq_part_drop, wq_part_part, wq_part_ahead, wq_part_cut, wq_part_choose, wq_part_unchoose, wq_ahead_put, wq_ahead_drop, wq_ahead_part, wq_ahead_ahead, wq_ahead_cut, wq_ahead_choose, wq_ahead_unchoose, wq_cut_put, wq_cut_drop, wq_cut_part, wq_cut_ahead, wq_cut_cut, wq_cut_choose, wq_cut_unchoose, wq_choose_put, wq_choose_drop, wq_choose_part, wq_choose_ahead, wq_choose_cut, wq_choose_choose, wq_choose_unchoose, wq_unchoose_put, wq_unchoose_drop, wq_unchoose_part, wq_unchoose_ahead, wq_unchoose_cut, wq_unchoose_choose, wq_unchoose_unchoose, wi_put_drop_unchoose, wi_drop_drop_unchoose, wi_part_drop_unchoose, wi_ahead_drop_unchoose, wi_cut_drop_unchoose, wi_choose_drop_unchoose, wi_unchoose_drop_unchoose, wi_put_choose_unchoose, wi_drop_choose_unchoose, wi_part_choose_unchoose, wi_ahead_choose_unchoose, wi_cut_choose_unchoose, wi_choose_choose_unchoose, wi_unchoose_choose_unchoose, wi_put_put_drop, wi_drop_put_drop, wi_part_put_drop, wi_ahead_put_drop, wi_cut_put_drop, wi_choose_put_drop, wi_unchoose_put_drop, c37, e0, h1]
  · refine Ev.body (k := 9) (c := c37) (ρ := [.v (encT t), .v (.tup [.str "ahead", .str "zz", .tup [], .int 1]), .nil, .nil, .nil, .nil, .nil, .nil]) rfl rfl rfl fun d hd => ?_
    have h1 := hn "ahead" d S (by omega)
    simp [endU, evL_disp, exB, exS, evE, evEs, evO, evT, evP, evAnd, evOr, bindE, bindO, optO, pureO, nxS, optS, slotU, slotP, asB, asI, line, setTg, tup2, ownOf, appU, frzU, uIdx, seqOf, L2.atI, L2.ixN, isiU, uc_eq, uc_ne, uc_gt, uc_lt, uc_le, uc_ge, ul_tup, ul_lst, isNonU_non, isNonU_tup, isNonU_int, isNonU_enc, wq_put_put, wq_put_drop, wq_put_part, wq_put_ahead, wq_put_cut, wq_put_choose, wq_put_unchoose, wq_drop_put, wq_drop_drop, wq_drop_part, wq_drop_ahead, wq_drop_cut, wq_drop_choose, wq_drop_unchoose, wq_part_put, wq_part_drop, wq_part_part, wq_part_ahead, wq_part_cut, wq_part_choose, wq_part_unchoose, wq_ahead_put, wq_ahead_drop, wq_ahead_part, wq_ahead_ahead, wq_ahead_cut, wq_ahead_choose, wq_ahead_unchoose, wq_cut_put, wq_cut_drop, wq_cut_part, wq_cut_ahead, wq_cut_cut, wq_cut_choose, wq_cut_unchoose, wq_choose_put, wq_choose_drop, wq_choose_part, wq_choose_ahead, wq_choose_cut, wq_choose_choose, wq_choose_unchoose, wq_unchoose_put, wq_unchoose_drop, wq_unchoose_part, wq_unchoose_ahead, wq_unchoose_cut, wq_unchoose_choose, wq_unchoose_unchoose, wi_put_drop_unchoose, wi_drop_drop_unchoose, wi_part_drop_unchoose, wi_ahead_drop_unchoose, wi_cut_drop_unchoose, wi_choose_drop_unchoose, wi_unchoose_drop_unchoose, wi_put_choose_unchoose, wi_drop_choose_unchoose, wi_part_choose_unchoose, wi_ahead_choose_unchoose, wi_cut_choose_unchoose, wi_choose_choose_unchoose, wi_unchoose_choose_unchoose, wi_put_put_drop, wi_drop_put_drop, wi_part_put_drop, wi_ahead_put_drop, wi_cut_put_drop, wi_choose_put_drop, wi_unchoose_put_drop, c37, e0, h1]
theorem bad_choose (t : Stt) (ht : Ok t) (u : U) (h0 : isNonU u = false) (hf : ∀ S, Ev 5 35 [.tup [.str "choose", .str "p", u]] S (some (.ok (.bl true), S))) (hc : ∀ S, Ev 3 10 [.tup ([.tup [.str "p", u]] ++ prN (.str "q") t.c.q)] S (some (.ok (.bl false), S))) : Bad t (.tup [.str "choose", .str "p", u]) := by
  refine bad_raw t hf fun S => ?_
  refine Ev.body (k := 9) (c := c37) (ρ := [.v (encT t), .v (.tup [.str "choose", .str "p", u]), .nil, .nil, .nil, .nil, .nil, .nil]) rfl rfl rfl fun d hd => ?_
  have e0 : encT t = .tup [encV t.s, enc2 t.c] := rfl
  have h1 := with2u t.c .p u S d (by omega)
  have h1 : R d 27 [enc2 t.c, .str "p", u] S = some (.ok (.tup ([.tup [.str "p", u]] ++ prN (.str "q") t.c.q)), S) := h1
  have h2 : R d 24 [.tup [encV t.s, .tup ([.tup [.str "p", u]] ++ prN (.str "q") t.c.q)]] S = some (.ok (.bl false), S) := by
    have : Ev 8 24 [.tup [encV t.s, .tup ([.tup [.str "p", u]] ++ prN (.str "q") t.c.q)]] S (some (.ok (.bl false), S)) := by
      refine Ev.body (k := 7) (c := c24) (ρ := [.v (.tup [encV t.s, .tup ([.tup [.str "p", u]] ++ prN (.str "q") t.c.q)])]) rfl rfl rfl fun d hd => ?_
      have g1 := is_store_ok t.s S ht d hd
      have g2 := hc S d (by omega)
      have e6 : uEq (.int 2) (.int 2) = some true := by kernel_rfl
      generalize U.tup ([.tup [.str "p", u]] ++ prN (.str "q") t.c.q) = z at g2 ⊢
      simp [endU, evL_disp, exB, exS, evE, evEs, evO, evT, evP, evAnd, evOr, bindE, bindO, optO, pureO, nxS, optS, slotU, slotP, asB, asI, line, setTg, tup2, ownOf, appU, frzU, uIdx, seqOf, L2.atI, L2.ixN, isiU, uc_eq, uc_ne, uc_gt, uc_lt, uc_le, uc_ge, ul_tup, ul_lst, isNonU_non, isNonU_tup, isNonU_int, isNonU_enc, c24, g1, g2, e6]
    exact this d (by omega)
  generalize U.tup ([.tup [.str "p", u]] ++ prN (.str "q") t.c.q) = z at h1 h2
  simp [endU, evL_disp, exB, exS, evE, evEs, evO, evT, evP, evAnd, evOr, bindE, bindO, optO, pureO, nxS, optS, slotU, slotP, asB, asI, line, setTg, tup2, ownOf, appU, frzU, uIdx, seqOf, L2.atI, L2.ixN, isiU, uc_eq, uc_ne, uc_gt, uc_lt, uc_le, uc_ge, ul_tup, ul_lst, isNonU_non, isNonU_tup, isNonU_int, isNonU_enc, wq_put_put, wq_put_drop, wq_put_part, wq_put_ahead, wq_put_cut, wq_put_choose, wq_put_unchoose, wq_drop_put, wq_drop_drop, wq_drop_part, wq_drop_ahead, wq_drop_cut, wq_drop_choose, wq_drop_unchoose, wq_part_put, wq_part_drop, wq_part_part, wq_part_ahead, wq_part_cut, wq_part_choose, wq_part_unchoose, wq_ahead_put, wq_ahead_drop, wq_ahead_part, wq_ahead_ahead, wq_ahead_cut, wq_ahead_choose, wq_ahead_unchoose, wq_cut_put, wq_cut_drop, wq_cut_part, wq_cut_ahead, wq_cut_cut, wq_cut_choose, wq_cut_unchoose, wq_choose_put, wq_choose_drop, wq_choose_part, wq_choose_ahead, wq_choose_cut, wq_choose_choose, wq_choose_unchoose, wq_unchoose_put, wq_unchoose_drop, wq_unchoose_part, wq_unchoose_ahead, wq_unchoose_cut, wq_unchoose_choose, wq_unchoose_unchoose, wi_put_drop_unchoose, wi_drop_drop_unchoose, wi_part_drop_unchoose, wi_ahead_drop_unchoose, wi_cut_drop_unchoose, wi_choose_drop_unchoose, wi_unchoose_drop_unchoose, wi_put_choose_unchoose, wi_drop_choose_unchoose, wi_part_choose_unchoose, wi_ahead_choose_unchoose, wi_cut_choose_unchoose, wi_choose_choose_unchoose, wi_unchoose_choose_unchoose, wi_put_put_drop, wi_drop_put_drop, wi_part_put_drop, wi_ahead_put_drop, wi_cut_put_drop, wi_choose_put_drop, wi_unchoose_put_drop, c37, e0, h1, h2]
theorem bad_none (t : Stt) (ht : Ok t) (n : Nm) (v : Va) (hg : t.s.get n = some v) : Bad t (badN n) := by
  refine bad_raw t (fun S => Ev.of fun d => by cases n <;> kernel_rfl) fun S => ?_
  refine Ev.body (k := 9) (c := c37) (ρ := [.v (encT t), .v (badN n), .nil, .nil, .nil, .nil, .nil, .nil]) rfl rfl rfl fun d hd => ?_
  have e0 : encT t = .tup [encV t.s, enc2 t.c] := rfl
  have h1 : R d 36 [encV t.s, .tup [.str "part", encN n, .tup [.str ".none"], .int 1]] S = some (.ok .non, S) := by
    have : Ev 8 36 [encV t.s, .tup [.str "part", encN n, .tup [.str ".none"], .int 1]] S (some (.ok .non, S)) := by
      refine Ev.body (k := 7) (c := c36) (ρ := [.v (encV t.s), .v (.tup [.str "part", encN n, .tup [.str ".none"], .int 1]), .nil, .nil]) rfl rfl rfl fun d hd => ?_
      have h1 := under_ok t.s n S d (by omega)
      rw [hg] at h1
      have h2 : R d 8 [.int 1] S = some (.ok (.bl true), S) := (Ev.of (k := 6) (r := some (.ok (.bl true), S)) fun d => by kernel_rfl) d (by omega)
      have h3 := part_put_none v v [] (.int 1) S rfl (by simp) d (by omega)
      have h3 : R d 32 [enc v, .tup [.str ".none"], .int 1] S = some (.ok .non, S) := h3
      simp [endU, evL_disp, exB, exS, evE, evEs, evO, evT, evP, evAnd, evOr, bindE, bindO, optO, pureO, nxS, optS, slotU, slotP, asB, asI, line, setTg, tup2, ownOf, appU, frzU, uIdx, seqOf, L2.atI, L2.ixN, isiU, uc_eq, uc_ne, uc_gt, uc_lt, uc_le, uc_ge, ul_tup, ul_lst, isNonU_non, isNonU_tup, isNonU_int, isNonU_enc, wq_put_put, wq_put_drop, wq_put_part, wq_put_ahead, wq_put_cut, wq_put_choose, wq_put_unchoose, wq_drop_put, wq_drop_drop, wq_drop_part, wq_drop_ahead, wq_drop_cut, wq_drop_choose, wq_drop_unchoose, wq_part_put, wq_part_drop, wq_part_part, wq_part_ahead, wq_part_cut, wq_part_choose, wq_part_unchoose, wq_ahead_put, wq_ahead_drop, wq_ahead_part, wq_ahead_ahead, wq_ahead_cut, wq_ahead_choose, wq_ahead_unchoose, wq_cut_put, wq_cut_drop, wq_cut_part, wq_cut_ahead, wq_cut_cut, wq_cut_choose, wq_cut_unchoose, wq_choose_put, wq_choose_drop, wq_choose_part, wq_choose_ahead, wq_choose_cut, wq_choose_choose, wq_choose_unchoose, wq_unchoose_put, wq_unchoose_drop, wq_unchoose_part, wq_unchoose_ahead, wq_unchoose_cut, wq_unchoose_choose, wq_unchoose_unchoose, wi_put_drop_unchoose, wi_drop_drop_unchoose, wi_part_drop_unchoose, wi_ahead_drop_unchoose, wi_cut_drop_unchoose, wi_choose_drop_unchoose, wi_unchoose_drop_unchoose, wi_put_choose_unchoose, wi_drop_choose_unchoose, wi_part_choose_unchoose, wi_ahead_choose_unchoose, wi_cut_choose_unchoose, wi_choose_choose_unchoose, wi_unchoose_choose_unchoose, wi_put_put_drop, wi_drop_put_drop, wi_part_put_drop, wi_ahead_put_drop, wi_cut_put_drop, wi_choose_put_drop, wi_unchoose_put_drop, c36, h1, h2, h3, optE]
    exact this d (by omega)
  simp [endU, evL_disp, exB, exS, evE, evEs, evO, evT, evP, evAnd, evOr, bindE, bindO, optO, pureO, nxS, optS, slotU, slotP, asB, asI, line, setTg, tup2, ownOf, appU, frzU, uIdx, seqOf, L2.atI, L2.ixN, isiU, uc_eq, uc_ne, uc_gt, uc_lt, uc_le, uc_ge, ul_tup, ul_lst, isNonU_non, isNonU_tup, isNonU_int, isNonU_enc, wq_put_put, wq_put_drop, wq_put_part, wq_put_ahead, wq_put_cut, wq_put_choose, wq_put_unchoose, wq_drop_put, wq_drop_drop, wq_drop_part, wq_drop_ahead, wq_drop_cut, wq_drop_choose, wq_drop_unchoose, wq_part_put, wq_part_drop, wq_part_part, wq_part_ahead, wq_part_cut, wq_part_choose, wq_part_unchoose, wq_ahead_put, wq_ahead_drop, wq_ahead_part, wq_ahead_ahead, wq_ahead_cut, wq_ahead_choose, wq_ahead_unchoose, wq_cut_put, wq_cut_drop, wq_cut_part, wq_cut_ahead, wq_cut_cut, wq_cut_choose, wq_cut_unchoose, wq_choose_put, wq_choose_drop, wq_choose_part, wq_choose_ahead, wq_choose_cut, wq_choose_choose, wq_choose_unchoose, wq_unchoose_put, wq_unchoose_drop, wq_unchoose_part, wq_unchoose_ahead, wq_unchoose_cut, wq_unchoose_choose, wq_unchoose_unchoose, wi_put_drop_unchoose, wi_drop_drop_unchoose, wi_part_drop_unchoose, wi_ahead_drop_unchoose, wi_cut_drop_unchoose, wi_choose_drop_unchoose, wi_unchoose_drop_unchoose, wi_put_choose_unchoose, wi_drop_choose_unchoose, wi_part_choose_unchoose, wi_ahead_choose_unchoose, wi_cut_choose_unchoose, wi_choose_choose_unchoose, wi_unchoose_choose_unchoose, wi_put_put_drop, wi_drop_put_drop, wi_part_put_drop, wi_ahead_put_drop, wi_cut_put_drop, wi_choose_put_drop, wi_unchoose_put_drop, c37, e0, badN, h1]
theorem bads_ok (t : Stt) (ht : Ok t) : ∀ b ∈ badsL t ++ badsE, Bad t b := by
  intro b hb
  obtain ⟨z1, z2, z3, z4⟩ := bad_zz t
  have givN : ∀ S, Ev 6 8 [.non] S (some (.ok (.bl false), S)) := fun S => Ev.of fun d => by kernel_rfl
  have givF : ∀ S, Ev 6 8 [.tup [.str "fault", .str "x"]] S (some (.ok (.bl false), S)) := fun S => Ev.of fun d => by kernel_rfl
  simp only [badsL, List.mem_append] at hb
  rcases hb with (((hb | hb) | hb) | hb) | hb
  · simp only [badsA, List.mem_cons, List.not_mem_nil, or_false] at hb
    rcases hb with rfl | rfl | rfl | rfl | rfl | rfl | rfl | rfl
    · exact bad_form t fun S => Ev.of fun d => by kernel_rfl
    · exact bad_form t fun S => Ev.of fun d => by kernel_rfl
    · exact bad_form t fun S => Ev.of fun d => by kernel_rfl
    · exact bad_form t fun S => Ev.of fun d => by kernel_rfl
    · exact bad_form t fun S => Ev.of fun d => by kernel_rfl
    · exact bad_put t ht _ givF fun S => Ev.of fun d => by kernel_rfl
    · exact bad_form t fun S => Ev.of fun d => by kernel_rfl
    · exact z1
  · simp only [badsB, List.mem_cons, List.not_mem_nil, or_false] at hb
    rcases hb with rfl | rfl | rfl | rfl
    · exact bad_form t fun S => Ev.of fun d => by kernel_rfl
    · exact z2
    · exact bad_choose t ht _ rfl (fun S => Ev.of fun d => by kernel_rfl) fun S => choices2m t.c S
    · exact bad_choose t ht _ rfl (fun S => Ev.of fun d => by kernel_rfl) fun S => choices2t t.c S
  · simp only [badsC, List.mem_cons, List.not_mem_nil, or_false] at hb
    rcases hb with rfl | rfl
    · exact z3
    · exact z4
  · obtain ⟨i, hi, rfl⟩ := List.mem_map.mp hb
    exact bad_none t ht i.1 i.2 (items_get hi)
  · simp only [badsE, List.mem_cons, List.not_mem_nil, or_false] at hb
    rcases hb with rfl | rfl | rfl | rfl | rfl
    · exact bad_form t fun S => Ev.of fun d => by kernel_rfl
    · exact bad_put t ht _ givN fun S => Ev.of fun d => by kernel_rfl
    · exact bad_form t fun S => Ev.of fun d => by kernel_rfl
    · exact bad_form t fun S => Ev.of fun d => by kernel_rfl
    · exact bad_form t fun S => Ev.of fun d => by kernel_rfl
theorem disp62a (fn : Nat → List U → Sto → UM U) (ρ : En) (S : Sto) : exS fn wdU (.asg 2 (.ofL (.disp (.cons (.k .non) (.cons (.tup .nil) (.cons (.k (.str "?")) (.cons (.tup (.cons (.k (.str "put")) .nil)) (.cons (.tup (.cons (.k (.str "put")) (.cons (.k (.str "A")) (.cons (.k (.int 1)) .nil)))) (.cons (.tup (.cons (.k (.str "put")) (.cons (.k (.str "a")) (.cons (.tup (.cons (.k (.str "fault")) (.cons (.k (.str "x")) .nil))) .nil)))) (.cons (.ofL (.disp (.cons (.k (.str "drop")) (.cons (.k (.str "a")) .nil)))) (.cons (.tup (.cons (.k (.str "drop")) (.cons (.k (.str "zz")) .nil))) .nil))))))))))) ρ S = some (.nx (ρ.set 2 (.v (.lst badsA))), S) := by kernel_rfl
theorem bad_draw (t : Stt) (ht : Ok t) (S : Sto) (hS : HandOk S) : ∃ b S', HandOk S' ∧ Bad t b ∧ Ev 3 62 [.ref 1, encT t] S (some (.ok b, S')) := by
  obtain ⟨b, S1, a1, a2, a3⟩ := any_lst (badsL t ++ badsE) (by simp [badsE]) (by have := items_len t.s; simp [badsL, badsA, badsB, badsC, badsE]; omega) S hS
  refine ⟨b, S1, a2, bads_ok t ht b a1, ?_⟩
  refine Ev.body (k := 2) (c := c62) (ρ := [.v (.ref 1), .v (encT t), .nil, .nil, .nil]) rfl rfl rfl fun d hd => ?_
  have a3 := a3 d hd
  have i0 : uIdx S (encT t) (.int 0) = some (encV t.s) := rfl
  have s2 : exS (R d) wdU (.asg 2 (.bin .add (.var 2) (.ofL (.disp (.cons (.tup (.cons (.k (.str "cut")) (.cons (.k (.str "a")) .nil))) (.cons (.tup (.cons (.k (.str "part")) (.cons (.k (.str "zz")) (.cons (.tup .nil) (.cons (.k (.int 1)) .nil))))) (.cons (.tup (.cons (.k (.str "choose")) (.cons (.k (.str "p")) (.cons (.neg (.k (.int 1))) .nil)))) (.cons (.tup (.cons (.k (.str "choose")) (.cons (.k (.str "p")) (.cons (.k (.bl true)) .nil)))) .nil)))))))) [.v (.ref 1), .v (encT t), .v (.lst badsA), .nil, .nil] S = some (.nx [.v (.ref 1), .v (encT t), .v (.lst (badsA ++ badsB)), .nil, .nil], S) := by kernel_rfl
  have s3 : exS (R d) wdU (.asg 2 (.bin .add (.var 2) (.ofL (.disp (.cons (.tup (.cons (.k (.str "unchoose")) (.cons (.k (.str "zz")) .nil))) (.cons (.tup (.cons (.k (.str "ahead")) (.cons (.k (.str "zz")) (.cons (.tup .nil) (.cons (.k (.int 1)) .nil))))) .nil)))))) [.v (.ref 1), .v (encT t), .v (.lst (badsA ++ badsB)), .nil, .nil] S = some (.nx [.v (.ref 1), .v (encT t), .v (.lst ((badsA ++ badsB) ++ badsC)), .nil, .nil], S) := by kernel_rfl
  have hc : evL (R d) wdU (.comp (.tup (.cons (.k (.str "part")) (.cons (.var 3) (.cons (.tup (.cons (.k (.str ".none")) .nil)) (.cons (.k (.int 1)) .nil))))) (.t2 3 4) (.seq (.sub (.var 1) (.k (.int 0)))) .no [("name", 3), ("value", 4)]) [.v (.ref 1), .v (encT t), .v (.lst ((badsA ++ badsB) ++ badsC)), .nil, .nil] S = some (.ok ((items t.s).map fun i => badN i.1), S) := by
    refine comp_map encI (fun i => badN i.1) ?_ (by have := items_len t.s; simp [line]; omega) fun y hy => ⟨_, rfl, rfl⟩
    simp [evI, evE, bindO, optO, pureO, slotU, i0, encV_items, seqM]
  have ad := add_lst ((badsA ++ badsB) ++ badsC) ((items t.s).map fun i => badN i.1) (by have := items_len t.s; simp [badsA, badsB, badsC]; omega)
  have s4 : exS (R d) wdU (.asg 2 (.bin .add (.var 2) (.ofL (.comp (.tup (.cons (.k (.str "part")) (.cons (.var 3) (.cons (.tup (.cons (.k (.str ".none")) .nil)) (.cons (.k (.int 1)) .nil))))) (.t2 3 4) (.seq (.sub (.var 1) (.k (.int 0)))) .no [("name", 3), ("value", 4)])))) [.v (.ref 1), .v (encT t), .v (.lst ((badsA ++ badsB) ++ badsC)), .nil, .nil] S = some (.nx [.v (.ref 1), .v (encT t), .v (.lst (badsL t)), .nil, .nil], S) := by
    simp only [exS, evE, bindE, bindO, optO, pureO, nxS, slotU, List.getElem?_cons_zero, List.getElem?_cons_succ, hc, ad, List.set_cons_zero, List.set_cons_succ]
    rfl
  have hd5 : evL (R d) wdU (.disp (.cons (.tup (.cons (.k (.str "choose")) (.cons (.k (.str "")) (.cons (.k (.int 1)) .nil)))) (.cons (.tup (.cons (.k (.str "put")) (.cons (.k (.str "a")) (.cons (.k .non) .nil)))) (.cons (.tup (.cons (.k (.str "part")) (.cons (.k (.str "a")) (.cons (.tup (.cons (.k (.str "?")) .nil)) (.cons (.k (.int 1)) .nil))))) (.cons (.tup (.cons (.k (.int 1)) (.cons (.k (.int 2)) .nil))) (.cons .emp .nil)))))) [.v (.ref 1), .v (encT t), .v (.lst (badsL t)), .nil, .nil] S = some (.ok badsE, S) := by kernel_rfl
  have ad2 := add_lst (badsL t) badsE (by have := items_len t.s; simp [badsL, badsA, badsB, badsC, badsE]; omega)
  rw [show c62.body = .cons (.asg 2 (.ofL (.disp (.cons (.k .non) (.cons (.tup .nil) (.cons (.k (.str "?")) (.cons (.tup (.cons (.k (.str "put")) .nil)) (.cons (.tup (.cons (.k (.str "put")) (.cons (.k (.str "A")) (.cons (.k (.int 1)) .nil)))) (.cons (.tup (.cons (.k (.str "put")) (.cons (.k (.str "a")) (.cons (.tup (.cons (.k (.str "fault")) (.cons (.k (.str "x")) .nil))) .nil)))) (.cons (.ofL (.disp (.cons (.k (.str "drop")) (.cons (.k (.str "a")) .nil)))) (.cons (.tup (.cons (.k (.str "drop")) (.cons (.k (.str "zz")) .nil))) .nil))))))))))) (.cons (.asg 2 (.bin .add (.var 2) (.ofL (.disp (.cons (.tup (.cons (.k (.str "cut")) (.cons (.k (.str "a")) .nil))) (.cons (.tup (.cons (.k (.str "part")) (.cons (.k (.str "zz")) (.cons (.tup .nil) (.cons (.k (.int 1)) .nil))))) (.cons (.tup (.cons (.k (.str "choose")) (.cons (.k (.str "p")) (.cons (.neg (.k (.int 1))) .nil)))) (.cons (.tup (.cons (.k (.str "choose")) (.cons (.k (.str "p")) (.cons (.k (.bl true)) .nil)))) .nil)))))))) (.cons (.asg 2 (.bin .add (.var 2) (.ofL (.disp (.cons (.tup (.cons (.k (.str "unchoose")) (.cons (.k (.str "zz")) .nil))) (.cons (.tup (.cons (.k (.str "ahead")) (.cons (.k (.str "zz")) (.cons (.tup .nil) (.cons (.k (.int 1)) .nil))))) .nil)))))) (.cons (.asg 2 (.bin .add (.var 2) (.ofL (.comp (.tup (.cons (.k (.str "part")) (.cons (.var 3) (.cons (.tup (.cons (.k (.str ".none")) .nil)) (.cons (.k (.int 1)) .nil))))) (.t2 3 4) (.seq (.sub (.var 1) (.k (.int 0)))) .no [("name", 3), ("value", 4)])))) (.cons (.ret (.call 50 (.cons (.var 0) (.cons (.bin .add (.var 2) (.ofL (.disp (.cons (.tup (.cons (.k (.str "choose")) (.cons (.k (.str "")) (.cons (.k (.int 1)) .nil)))) (.cons (.tup (.cons (.k (.str "put")) (.cons (.k (.str "a")) (.cons (.k .non) .nil)))) (.cons (.tup (.cons (.k (.str "part")) (.cons (.k (.str "a")) (.cons (.tup (.cons (.k (.str "?")) .nil)) (.cons (.k (.int 1)) .nil))))) (.cons (.tup (.cons (.k (.int 1)) (.cons (.k (.int 2)) .nil))) (.cons .emp .nil)))))))) .nil)))) .nil)))) from rfl]
  simp only [exB]
  rw [disp62a]
  simp only [List.set_cons_zero, List.set_cons_succ]
  rw [s2]
  simp only
  rw [s3]
  simp only
  rw [s4]
  simp only [exS, evE, evEs, bindE, bindO, optO, pureO, slotU, List.getElem?_cons_zero, List.getElem?_cons_succ, hd5, ad2, a3, endU]
theorem words66 : uEq (.lst [.str "state", .str "state", .str "edit", .str "edit", .str "value", .str "value", .str "path"]) (.lst [.str "state", .str "state", .str "edit", .str "edit", .str "value", .str "value", .str "path"]) = some true := by kernel_rfl
theorem refused_ok (t : Stt) (ht : Ok t) (S : Sto) (hS : HandOk S) : ∃ S', HandOk S' ∧ Ev 13 66 [.ref 1, encT t] S (some (.ok (.bl true), S')) := by
  obtain ⟨u, S1, a1, a2, a3⟩ := any_lst (none66 t) (by simp [none66]) (by simp [none66]) S hS
  have hu := nost66 t ht u a1
  obtain ⟨b, S2, b1, b2, b3⟩ := bad_draw t ht S1 a2
  refine ⟨S2, b1, ?_⟩
  refine Ev.body (k := 12) (c := c66) (ρ := [.v (.ref 1), .v (encT t), .nil, .nil, .nil, .nil]) rfl rfl rfl fun d hd => ?_
  have a3 := a3 d (by omega)
  have b3 := b3 d (by omega)
  have i0 : uIdx S (encT t) (.int 0) = some (encV t.s) := rfl
  have e1 : exS (R d) wdU (.asg 2 (.ofL (.disp (.cons (.k .non) (.cons (.tup .nil) (.cons (.tup (.cons (.sub (.var 1) (.k (.int 0))) .nil)) (.cons (.ofL (.disp (.cons (.tup .nil) (.cons (.tup .nil) .nil)))) (.cons (.tup (.cons (.sub (.var 1) (.k (.int 0))) (.cons (.ofL (.disp (.cons (.tup (.cons (.k (.str "p")) (.cons (.k (.int 1)) .nil))) .nil))) .nil))) (.cons (.tup (.cons (.tup (.cons (.tup (.cons (.k (.str "a")) (.cons (.tup (.cons (.k (.str "fault")) (.cons (.k (.str "x")) .nil))) .nil))) .nil)) (.cons (.tup .nil) .nil))) (.cons (.k (.str "?")) .nil)))))))))) [.v (.ref 1), .v (encT t), .nil, .nil, .nil, .nil] S = some (.nx [.v (.ref 1), .v (encT t), .v (.lst (none66 t)), .nil, .nil, .nil], S) := by kernel_rfl
  have h1 := hu S2 d (by omega)
  have h2 := bad_is ht b2 S2 d hd
  have h3 := nost_is_edit hu b S2 d (by omega)
  have h4 := nost_edited hu b S2 d (by omega)
  have h5 := bad_edited ht b2 S2 d hd
  have h6 := bad_back ht b2 S2 d hd
  have h7 := wpart_v1 S2 d (by omega)
  have h8 := wpart_v2 S2 d (by omega)
  have h9 := wpart_p S2 d (by omega)
  rw [show c66.body = .cons (.asg 2 (.ofL (.disp (.cons (.k .non) (.cons (.tup .nil) (.cons (.tup (.cons (.sub (.var 1) (.k (.int 0))) .nil)) (.cons (.ofL (.disp (.cons (.tup .nil) (.cons (.tup .nil) .nil)))) (.cons (.tup (.cons (.sub (.var 1) (.k (.int 0))) (.cons (.ofL (.disp (.cons (.tup (.cons (.k (.str "p")) (.cons (.k (.int 1)) .nil))) .nil))) .nil))) (.cons (.tup (.cons (.tup (.cons (.tup (.cons (.k (.str "a")) (.cons (.tup (.cons (.k (.str "fault")) (.cons (.k (.str "x")) .nil))) .nil))) .nil)) (.cons (.tup .nil) .nil))) (.cons (.k (.str "?")) .nil)))))))))) (.cons (.asg 3 (.call 50 (.cons (.var 0) (.cons (.var 2) .nil)))) (.cons (.asg 4 (.call 62 (.cons (.var 0) (.cons (.var 1) .nil)))) (.cons (.ite (.or (.cons (.notB false (.call 24 (.cons (.var 3) .nil))) (.cons (.notB false (.call 39 (.cons (.var 1) (.cons (.var 4) .nil)))) .nil))) (.cons (.ret (.k (.bl false))) .nil) .nil) (.cons (.own 5 (.disp (.cons (.word (.call 39 (.cons (.var 3) (.cons (.var 4) .nil)))) .nil))) (.cons (.app 5 (.word (.call 40 (.cons (.var 3) (.cons (.var 4) .nil))))) (.cons (.app 5 (.word (.call 40 (.cons (.var 1) (.cons (.var 4) .nil))))) (.cons (.app 5 (.word (.call 42 (.cons (.var 1) (.cons (.var 4) .nil))))) (.cons (.app 5 (.word (.call 33 (.cons (.tup (.cons (.k (.str "fault")) (.cons (.k (.str "x")) .nil))) (.cons (.tup .nil) (.cons (.k (.int 1)) .nil)))))) (.cons (.app 5 (.word (.call 33 (.cons (.k (.int 1)) (.cons (.tup .nil) (.cons (.k .non) .nil)))))) (.cons (.app 5 (.word (.call 33 (.cons (.k (.int 1)) (.cons (.ofL (.disp (.cons (.k (.str "?")) .nil))) (.cons (.k (.int 1)) .nil)))))) (.cons (.frz 5) (.cons (.ret (.cmp .eq (.var 5) (.ofL (.disp (.cons (.k (.str "state")) (.cons (.k (.str "state")) (.cons (.k (.str "edit")) (.cons (.k (.str "edit")) (.cons (.k (.str "value")) (.cons (.k (.str "value")) (.cons (.k (.str "path")) .nil))))))))))) .nil)))))))))))) from rfl]
  unfold exB
  rw [e1]
  simp [endU, evL_disp, exB, exS, evE, evEs, evOr, bindE, bindO, optO, pureO, nxS, slotU, ownOf, appU, frzU, asB, line, uc_eq, a3, b3, h1, h2, h3, h4, h5, h6, h7, h8, h9, wd_edit, wd_state, wd_value, wd_path, words66]
end Pl
end
section
set_option maxRecDepth 100000
set_option maxHeartbeats 4000000
namespace Pl
open PySem Wy Core49
inductive Chain : Stt → List (Stt × Ed) → Prop where
  | nil (t : Stt) : Chain t []
  | cons {t a : Stt} {b : Ed} {r : List (Stt × Ed)} (g : Good t b) (h : edS t b = some a) (c : Chain a r) : Chain t ((a, b) :: r)
def encH (h : Stt × Ed) : U := .tup [encT h.1, encE h.2]
def bA : CB := match c67.body with
  | .cons _ (.cons _ (.cons _ (.cons (.for_ _ _ b) _))) => b
  | _ => .nil
def bB : CB := match c67.body with
  | .cons _ (.cons _ (.cons _ (.cons _ (.cons _ (.cons (.for_ _ _ b) _))))) => b
  | _ => .nil
def bC : CB := match c67.body with
  | .cons _ (.cons _ (.cons _ (.cons _ (.cons _ (.cons _ (.cons _ (.cons (.for_ _ _ b) _))))))) => b
  | _ => .nil
/-- the values, one behind another -/
theorem loopA (x y : U) : ∀ (is : List (Nm × Va)), (∀ i ∈ is, Fresh 0 i.2) → ∀ (S : Sto), HandOk S → ∀ s3 s4, ∃ s3' s4' S', HandOk S' ∧ ∀ d, 43 ≤ d → forL (.t2 3 4) (exB (R d) wdU bA) (is.map encI) [.v x, .v (.ref 1), .v y, s3, s4, .nil, .nil, .nil, .nil, .nil, .nil] S = some (.nx [.v x, .v (.ref 1), .v y, s3', s4', .nil, .nil, .nil, .nil, .nil, .nil], S')
  | [], _, S, hS, s3, s4 => ⟨s3, s4, S, hS, fun d hd => rfl⟩
  | i :: is, h, S, hS, s3, s4 => by
    obtain ⟨S1, a1, a2⟩ := paths_right i.2 (h i List.mem_cons_self) S hS
    obtain ⟨s3', s4', S2, b1, b2⟩ := loopA x y is (fun j hj => h j (List.mem_cons_of_mem _ hj)) S1 a1 (.v (encN i.1)) (.v (enc i.2))
    refine ⟨s3', s4', S2, b1, fun d hd => ?_⟩
    have a2 := a2 d hd
    have st : exB (R d) wdU bA [.v x, .v (.ref 1), .v y, .v (encN i.1), .v (enc i.2), .nil, .nil, .nil, .nil, .nil, .nil] S = some (.nx [.v x, .v (.ref 1), .v y, .v (encN i.1), .v (enc i.2), .nil, .nil, .nil, .nil, .nil, .nil], S1) := by
      simp [exB, exS, evE, evEs, bindE, bindO, optO, pureO, nxS, slotU, asB, bA, c67, a2]
    simp only [List.map_cons]
    conv => lhs; unfold forL
    simp only [setTg, encI, tup2, Option.map_some, List.set_cons_succ, List.set_cons_zero]
    rw [st]
    exact b2 d hd
abbrev envB (x : U) (t : Stt) (hist : List (Stt × Ed)) (s3 s4 s6 s9 s10 : Wy.Slot) : En := [.v x, .v (.ref 1), .v (encT t), s3, s4, .own (hist.map encH).reverse, s6, .nil, .nil, s9, s10]
theorem disp64 (fn : Nat → List U → Sto → UM U) (ρ : En) (S : Sto) : exS fn wdU (.asg 10 (.ofL (.disp (.cons (.tup (.cons (.k (.str "a")) (.cons (.tup .nil) .nil))) (.cons (.tup (.cons (.k (.str "b")) (.cons (.tup (.cons (.k (.str "<")) .nil)) .nil))) (.cons (.tup (.cons (.k (.str "c")) (.cons (.tup (.cons (.k (.str ".m")) .nil)) .nil))) (.cons (.tup (.cons (.k (.str "e")) (.cons (.tup .nil) .nil))) .nil))))))) ρ S = some (.nx (ρ.set 10 (.v (.lst (i64.map encJ)))), S) := by kernel_rfl
theorem stepB (k : Nat) (hk : k ≤ 5) (x : U) (t : Stt) (hf : Fr k t) (hist : List (Stt × Ed)) (hc : Chain t hist) (hl : hist.length ≤ 10) (S : Sto) (hS : HandOk S) (s3 s4 s6 s9 s10 : Wy.Slot) :
    ∃ t' hist' S' s9' s10', Fr (k + 1) t' ∧ Chain t' hist' ∧ hist'.length ≤ hist.length + 1 ∧ HandOk S' ∧ ∀ d, 44 ≤ d → exB (R d) wdU bB (envB x t hist s3 s4 s6 s9 s10) S = some (.nx (envB x t' hist' s3 s4 s6 s9' s10'), S') := by
  have ht := fr_ok hf (by omega)
  obtain ⟨e, S1, a1, a2, a3⟩ := edit_draw k t hf hk S hS
  have g := good_ed hf hk a2
  obtain ⟨S2, b1, b2⟩ := refused_ok t ht S1 a1
  cases hi : edS t e with
  | none =>
    refine ⟨t, hist, S2, .v (encE e), .v (.lst (i64.map encJ)), hf.mono (by omega), hc, by omega, b1, fun d hd => ?_⟩
    have a3 := a3 d (by omega)
    have b2 := b2 d (by omega)
    have h1 := edit_right t e (.ref 1) S1 g d hd
    have h2 := is_told_right t ht S2 d (by omega)
    have h3 := law_edited_ok t e S2 g d (by omega)
    rw [hi] at h3
    rw [show bB = .cons (.asg 9 (.call 61 (.cons (.var 1) (.cons (.var 2) .nil)))) (.cons (.ite (.or (.cons (.not (.call 65 (.cons (.var 1) (.cons (.var 2) (.cons (.var 9) .nil))))) (.cons (.not (.call 66 (.cons (.var 1) (.cons (.var 2) .nil)))) .nil))) (.cons (.ret (.k (.bl false))) .nil) .nil) (.cons (.asg 10 (.ofL (.disp (.cons (.tup (.cons (.k (.str "a")) (.cons (.tup .nil) .nil))) (.cons (.tup (.cons (.k (.str "b")) (.cons (.tup (.cons (.k (.str "<")) .nil)) .nil))) (.cons (.tup (.cons (.k (.str "c")) (.cons (.tup (.cons (.k (.str ".m")) .nil)) .nil))) (.cons (.tup (.cons (.k (.str "e")) (.cons (.tup .nil) .nil))) .nil))))))) (.cons (.ite (.not (.call 64 (.cons (.var 2) (.cons (.var 10) .nil)))) (.cons (.ret (.k (.bl false))) .nil) .nil) (.cons (.ite (.notN (.call 59 (.cons (.var 2) (.cons (.var 9) .nil)))) (.cons (.app 5 (.tup (.cons (.var 2) (.cons (.call 60 (.cons (.var 2) (.cons (.var 9) .nil))) .nil)))) (.cons (.asg 2 (.call 59 (.cons (.var 2) (.cons (.var 9) .nil)))) .nil)) .nil) .nil)))) from rfl]
    have hd := disp64 (R d) [.v x, .v (.ref 1), .v (encT t), s3, s4, .own (hist.map encH).reverse, s6, .nil, .nil, .v (encE e), s10] S2
    simp only [List.set_cons_succ, List.set_cons_zero] at hd
    simp only [exB, exS] at hd ⊢
    simp only [evE, evEs, evOr, bindE, bindO, optO, pureO, nxS, slotU, asB, List.getElem?_cons_zero, List.getElem?_cons_succ, Option.map_some, List.set_cons_succ, List.set_cons_zero, a3, b2, h1, Bool.not_true] at hd ⊢
    rw [hd]
    simp [evE, evEs, evOr, bindE, bindO, optO, pureO, nxS, slotU, asB, h2, h3, optT, isNonU_non]
  | some t' =>
    have gb := good_back g hi
    have hb := back_ed hi
    refine ⟨t', (t, backS t e) :: hist, S2, .v (encE e), .v (.lst (i64.map encJ)), fr_next hf a2 hi, .cons gb hb hc, by simp, b1, fun d hd => ?_⟩
    have a3 := a3 d (by omega)
    have b2 := b2 d (by omega)
    have h1 := edit_right t e (.ref 1) S1 g d hd
    have h2 := is_told_right t ht S2 d (by omega)
    have h3 := law_edited_ok t e S2 g d (by omega)
    have h4 := law_back_ok t t' e S2 hi d (by omega)
    rw [hi] at h3
    rw [show bB = .cons (.asg 9 (.call 61 (.cons (.var 1) (.cons (.var 2) .nil)))) (.cons (.ite (.or (.cons (.not (.call 65 (.cons (.var 1) (.cons (.var 2) (.cons (.var 9) .nil))))) (.cons (.not (.call 66 (.cons (.var 1) (.cons (.var 2) .nil)))) .nil))) (.cons (.ret (.k (.bl false))) .nil) .nil) (.cons (.asg 10 (.ofL (.disp (.cons (.tup (.cons (.k (.str "a")) (.cons (.tup .nil) .nil))) (.cons (.tup (.cons (.k (.str "b")) (.cons (.tup (.cons (.k (.str "<")) .nil)) .nil))) (.cons (.tup (.cons (.k (.str "c")) (.cons (.tup (.cons (.k (.str ".m")) .nil)) .nil))) (.cons (.tup (.cons (.k (.str "e")) (.cons (.tup .nil) .nil))) .nil))))))) (.cons (.ite (.not (.call 64 (.cons (.var 2) (.cons (.var 10) .nil)))) (.cons (.ret (.k (.bl false))) .nil) .nil) (.cons (.ite (.notN (.call 59 (.cons (.var 2) (.cons (.var 9) .nil)))) (.cons (.app 5 (.tup (.cons (.var 2) (.cons (.call 60 (.cons (.var 2) (.cons (.var 9) .nil))) .nil)))) (.cons (.asg 2 (.call 59 (.cons (.var 2) (.cons (.var 9) .nil)))) .nil)) .nil) .nil)))) from rfl]
    have hd := disp64 (R d) [.v x, .v (.ref 1), .v (encT t), s3, s4, .own (hist.map encH).reverse, s6, .nil, .nil, .v (encE e), s10] S2
    simp only [List.set_cons_succ, List.set_cons_zero] at hd
    simp only [exB, exS] at hd ⊢
    simp only [evE, evEs, evOr, bindE, bindO, optO, pureO, nxS, slotU, asB, List.getElem?_cons_zero, List.getElem?_cons_succ, Option.map_some, List.set_cons_succ, List.set_cons_zero, a3, b2, h1, Bool.not_true] at hd ⊢
    rw [hd]
    have hll : hist.length < 1000000 := by omega
    simp [evE, evEs, evOr, bindE, bindO, optO, pureO, nxS, slotU, asB, h2, h3, h4, optT, isNonU_T, appU, ownOf, line, hll, encH]
theorem loopB (x : U) : ∀ (us : List U) (k : Nat) (t : Stt) (hist : List (Stt × Ed)) (S : Sto) (s3 s4 s6 s9 s10 : Wy.Slot), k + us.length ≤ 6 → Fr k t → Chain t hist → hist.length ≤ k → HandOk S →
    ∃ t' hist' S' s6' s9' s10', Chain t' hist' ∧ Ok t' ∧ HandOk S' ∧ ∀ d, 44 ≤ d → forL (.n 6) (exB (R d) wdU bB) us (envB x t hist s3 s4 s6 s9 s10) S = some (.nx (envB x t' hist' s3 s4 s6' s9' s10'), S')
  | [], k, t, hist, S, s3, s4, s6, s9, s10, hk, hf, hc, hl, hS => ⟨t, hist, S, s6, s9, s10, hc, fr_ok hf (by simp at hk; omega), hS, fun d hd => rfl⟩
  | u :: us, k, t, hist, S, s3, s4, s6, s9, s10, hk, hf, hc, hl, hS => by
    obtain ⟨t1, h1, S1, s91, s101, f1, c1, l1, o1, st⟩ := stepB k (by simp at hk; omega) x t hf hist hc (by simp at hk; omega) S hS s3 s4 (.v u) s9 s10
    obtain ⟨t2, h2, S2, s62, s92, s102, c2, k2, o2, ih⟩ := loopB x us (k + 1) t1 h1 S1 s3 s4 (.v u) s91 s101 (by simp at hk; omega) f1 c1 (by omega) o1
    refine ⟨t2, h2, S2, s62, s92, s102, c2, k2, o2, fun d hd => ?_⟩
    conv => lhs; unfold forL
    simp only [setTg, envB, List.set_cons_succ, List.set_cons_zero]
    rw [st d hd]
    exact ih d hd
theorem loopC (x y : U) (S : Sto) (s3 s4 s6 s9 s10 : Wy.Slot) : ∀ (hist : List (Stt × Ed)) (t : Stt) (s7 s8 : Wy.Slot), Chain t hist → ∃ z s7' s8', ∀ d, 44 ≤ d → forL (.t2 7 8) (exB (R d) wdU bC) (hist.map encH) [.v x, .v (.ref 1), .v (encT t), s3, s4, .v y, s6, s7, s8, s9, s10] S = some (.nx [.v x, .v (.ref 1), z, s3, s4, .v y, s6, s7', s8', s9, s10], S)
  | [], t, s7, s8, _ => ⟨_, s7, s8, fun d hd => rfl⟩
  | h :: r, t, s7, s8, hc => by
    cases hc with
    | @cons _ a b _ g hi c =>
      obtain ⟨z, s7', s8', ih⟩ := loopC x y S s3 s4 s6 s9 s10 r a (.v (encT a)) (.v (encE b)) c
      refine ⟨z, s7', s8', fun d hd => ?_⟩
      have h1 := edited_ok t b S g d (by omega)
      rw [hi] at h1
      have h2 := uEq_self (eqok_T (g.r a hi))
      have st : exB (R d) wdU bC [.v x, .v (.ref 1), .v (encT t), s3, s4, .v y, s6, .v (encT a), .v (encE b), s9, s10] S = some (.nx [.v x, .v (.ref 1), .v (encT a), s3, s4, .v y, s6, .v (encT a), .v (encE b), s9, s10], S) := by
        simp [exB, exS, evE, evEs, bindE, bindO, optO, pureO, nxS, slotU, asB, uc_ne, bC, c67, h1, h2]
      simp only [List.map_cons]
      conv => lhs; unfold forL
      simp only [setTg, encH, tup2, Option.map_some, List.set_cons_succ, List.set_cons_zero]
      rw [st]
      exact ih d hd
theorem law_ok (xs : List Int) (h : xs.length ≤ 63) : ∃ S, Ev 45 67 [.fz (xs.map .int)] [] (some (.ok (.bl true), S)) := by
  obtain ⟨S1, a1, a2⟩ := hand_ok xs h
  obtain ⟨s, S2, b1, b2, b3⟩ := store_draw S1 a1
  obtain ⟨c, S3, c1, c2⟩ := choices_draw S2 b1
  let t : Stt := ⟨s, c⟩
  have hf : Fr 0 t := b2
  have ht := fr_ok hf (by decide)
  obtain ⟨s3, s4, S4, d1, d2⟩ := loopA (.fz (xs.map .int)) (encT t) (items s) (fun i hi => b2 i.1 i.2 (items_get hi)) S3 c1 .nil .nil
  obtain ⟨t', hist, S5, s6, s9, s10, e1, e2, e3, e4⟩ := loopB (.fz (xs.map .int)) (rangeU 0 6) 0 t [] S4 s3 s4 .nil .nil .nil (by decide) hf (.nil t) (by simp) d1
  obtain ⟨z, s7, s8, f1⟩ := loopC (.fz (xs.map .int)) (.lst (hist.map encH).reverse) S5 s3 s4 s6 s9 s10 hist t' .nil .nil e1
  refine ⟨S5, ?_⟩
  refine Ev.body (k := 44) (c := c67) (ρ := [.v (.fz (xs.map .int)), .nil, .nil, .nil, .nil, .nil, .nil, .nil, .nil, .nil, .nil]) rfl rfl rfl fun d hd => ?_
  have a2 := a2 d (by omega)
  have b3 := b3 d (by omega)
  have c2 := c2 d (by omega)
  have d2 := d2 d (by omega)
  have e4 := e4 d hd
  have f1 := f1 d hd
  have g1 := state_of_ok t S3 ht d (by omega)
  have g2 := is_state_ok t S3 ht d (by omega)
  have g3 := uEq_self (eqok_T ht)
  have i0 : uIdx S3 (encT t) (.int 0) = some (encV s) := rfl
  have i1 : uIdx S3 (encT t) (.int 1) = some (enc2 c) := rfl
  have g1 : R d 26 [encV s, enc2 c] S3 = some (.ok (encT t), S3) := g1
  have k1 : exS (R d) wdU (.asg 1 (.call 48 (.cons (.var 0) .nil))) [.v (.fz (xs.map .int)), .nil, .nil, .nil, .nil, .nil, .nil, .nil, .nil, .nil, .nil] [] = some (.nx [.v (.fz (xs.map .int)), .v (.ref 1), .nil, .nil, .nil, .nil, .nil, .nil, .nil, .nil, .nil], S1) := by
    simp [exS, evE, evEs, bindE, bindO, optO, pureO, nxS, slotU, a2]
  have k2 : exS (R d) wdU (.asg 2 (.tup (.cons (.call 52 (.cons (.var 1) .nil)) (.cons (.call 53 (.cons (.var 1) .nil)) .nil)))) [.v (.fz (xs.map .int)), .v (.ref 1), .nil, .nil, .nil, .nil, .nil, .nil, .nil, .nil, .nil] S1 = some (.nx [.v (.fz (xs.map .int)), .v (.ref 1), .v (encT t), .nil, .nil, .nil, .nil, .nil, .nil, .nil, .nil], S3) := by
    simp [exS, evE, evEs, bindE, bindO, optO, pureO, nxS, slotU, b3, c2, line]
    rfl
  have k3 : exS (R d) wdU (.ite (.or (.cons (.cmp .ne (.call 26 (.cons (.sub (.var 2) (.k (.int 0))) (.cons (.sub (.var 2) (.k (.int 1))) .nil))) (.var 2)) (.cons (.notB true (.call 24 (.cons (.var 2) .nil))) .nil))) (.cons (.ret (.k (.bl false))) .nil) .nil) [.v (.fz (xs.map .int)), .v (.ref 1), .v (encT t), .nil, .nil, .nil, .nil, .nil, .nil, .nil, .nil] S3 = some (.nx [.v (.fz (xs.map .int)), .v (.ref 1), .v (encT t), .nil, .nil, .nil, .nil, .nil, .nil, .nil, .nil], S3) := by
    simp [exS, exB, evE, evEs, evOr, bindE, bindO, optO, pureO, nxS, slotU, asB, uc_ne, i0, i1, g1, g2, g3]
  have k4 : exS (R d) wdU (.for_ (.t2 3 4) (.seq (.sub (.var 2) (.k (.int 0)))) bA) [.v (.fz (xs.map .int)), .v (.ref 1), .v (encT t), .nil, .nil, .nil, .nil, .nil, .nil, .nil, .nil] S3 = some (.nx [.v (.fz (xs.map .int)), .v (.ref 1), .v (encT t), s3, s4, .nil, .nil, .nil, .nil, .nil, .nil], S4) := by
    simp only [exS, evI, evE, bindE, bindO, optO, pureO, slotU, List.getElem?_cons_zero, List.getElem?_cons_succ, i0]
    rw [encV_items]
    exact d2
  have k5 : exS (R d) wdU (.own 5 (.disp .nil)) [.v (.fz (xs.map .int)), .v (.ref 1), .v (encT t), s3, s4, .nil, .nil, .nil, .nil, .nil, .nil] S4 = some (.nx [.v (.fz (xs.map .int)), .v (.ref 1), .v (encT t), s3, s4, .own [], .nil, .nil, .nil, .nil, .nil], S4) := by kernel_rfl
  have k6 : exS (R d) wdU (.for_ (.n 6) (.range (.k (.int 6))) bB) [.v (.fz (xs.map .int)), .v (.ref 1), .v (encT t), s3, s4, .own [], .nil, .nil, .nil, .nil, .nil] S4 = some (.nx (envB (.fz (xs.map .int)) t' hist s3 s4 s6 s9 s10), S5) := by
    have : evI (R d) wdU (.range (.k (.int 6))) [.v (.fz (xs.map .int)), .v (.ref 1), .v (encT t), s3, s4, .own [], .nil, .nil, .nil, .nil, .nil] S4 = some (.ok (rangeU 0 6), S4) := by kernel_rfl
    simp only [exS, this, bindE]
    exact e4
  have k7 : exS (R d) wdU (.frz 5) (envB (.fz (xs.map .int)) t' hist s3 s4 s6 s9 s10) S5 = some (.nx [.v (.fz (xs.map .int)), .v (.ref 1), .v (encT t'), s3, s4, .v (.lst (hist.map encH).reverse), s6, .nil, .nil, s9, s10], S5) := by
    simp only [exS, frzU, envB, List.getElem?_cons_zero, List.getElem?_cons_succ, ownOf, nxS, List.set_cons_succ, List.set_cons_zero]
  have k8 : exS (R d) wdU (.for_ (.t2 7 8) (.seq (.rev (.var 5))) bC) [.v (.fz (xs.map .int)), .v (.ref 1), .v (encT t'), s3, s4, .v (.lst (hist.map encH).reverse), s6, .nil, .nil, s9, s10] S5 = some (.nx [.v (.fz (xs.map .int)), .v (.ref 1), z, s3, s4, .v (.lst (hist.map encH).reverse), s6, s7, s8, s9, s10], S5) := by
    have : evI (R d) wdU (.seq (.rev (.var 5))) [.v (.fz (xs.map .int)), .v (.ref 1), .v (encT t'), s3, s4, .v (.lst (hist.map encH).reverse), s6, .nil, .nil, s9, s10] S5 = some (.ok (hist.map encH), S5) := by
      simp [evI, evE, bindO, optO, pureO, slotU, uRev, seqM]
    simp only [exS, this, bindE]
    exact f1
  rw [show c67.body = .cons (.asg 1 (.call 48 (.cons (.var 0) .nil))) (.cons (.asg 2 (.tup (.cons (.call 52 (.cons (.var 1) .nil)) (.cons (.call 53 (.cons (.var 1) .nil)) .nil)))) (.cons (.ite (.or (.cons (.cmp .ne (.call 26 (.cons (.sub (.var 2) (.k (.int 0))) (.cons (.sub (.var 2) (.k (.int 1))) .nil))) (.var 2)) (.cons (.notB true (.call 24 (.cons (.var 2) .nil))) .nil))) (.cons (.ret (.k (.bl false))) .nil) .nil) (.cons (.for_ (.t2 3 4) (.seq (.sub (.var 2) (.k (.int 0)))) bA) (.cons (.own 5 (.disp .nil)) (.cons (.for_ (.n 6) (.range (.k (.int 6))) bB) (.cons (.frz 5) (.cons (.for_ (.t2 7 8) (.seq (.rev (.var 5))) bC) (.cons (.ret (.k (.bl true))) .nil)))))))) from rfl]
  unfold exB; rw [k1]; simp only
  unfold exB; rw [k2]; simp only
  unfold exB; rw [k3]; simp only
  unfold exB; rw [k4]; simp only
  unfold exB; rw [k5]; simp only
  unfold exB; rw [k6]; simp only
  unfold exB; rw [k7]; simp only
  unfold exB; rw [k8]; simp only
  rfl
end Pl
theorem Pl.plain (xs : List Int) (h : xs.length ≤ 63) : ∃ S, Wy.run (Core49.rows.map fun r : Wy.Row => r.d) Wy.wdU 76 Core49.lawI [.fz (xs.map .int)] [] = some (.ok (.bl true), S) := by
  obtain ⟨S, hS⟩ := Pl.law_ok xs h
  exact ⟨S, hS 76 (by decide)⟩
end
section
set_option maxRecDepth 100000
set_option maxHeartbeats 0
namespace End49
open PySem PySem.Spec PyProof.Rows L2 Wy Core49
/-- what is left to be said in plain words -/
def Plain : Prop := ∀ xs : List Int, xs.length ≤ 63 → ∃ S, run (rows.map fun r : Wy.Row => r.d) wdU 76 lawI [.fz (xs.map .int)] [] = some (.ok (.bl true), S)
def lamT (K : PySem.W.Frag) : List (Addr × Str) := Hd.tf.map fun p => ((He.cT K p).2, p.1 ++ ".<locals>." ++ "<lambda>")
theorem fnl_fn : ∀ p ∈ fnl, Hd.mkD p.1 p.2 ∈ Hd.fn := by
  have : Hd.fn = fnl.map fun p => Hd.mkD p.1 p.2 := by rfl
  intro p hp
  rw [this]
  exact List.mem_map.mpr ⟨p, hp, rfl⟩
def faB (f : He.Fa) : Bool := Hd.fa.any fun g => match f, g with
  | .glo x, .glo y => decide (x = y)
  | .free x, .free y => decide (x = y)
  | .int x i, .int y j => decide (x = y) && decide (i = j)
  | .str x i, .str y j => decide (x = y) && decide (i = j)
  | .exc x, .exc y => decide (x = y)
  | _, _ => false
theorem faB_ok {f : He.Fa} (h : faB f = true) : f ∈ Hd.fa := by
  obtain ⟨g, hg, e⟩ := List.any_eq_true.mp h
  have : f = g := by
    cases f <;> cases g <;> simp at e <;> (first | (obtain ⟨rfl, rfl⟩ := e; rfl) | (subst e; rfl))
  rw [this]; exact hg
theorem fa_all : (fnl.all fun p => faB (.glo p.1)) = true ∧ (info.gInt.all fun p => faB (.int p.1 p.2)) = true ∧ (info.gStr.all fun p => faB (.str p.1 p.2)) = true ∧ (info.free.all fun x => faB (.free x)) = true ∧ (info.exc.all fun x => faB (.exc x) && faB (.glo x)) = true ∧ faB (.glo "EDIT_SIZES") = true ∧ faB (.glo "_law_word") = true := by
  refine ⟨?_, ?_, ?_, ?_, ?_, ?_, ?_⟩ <;> decide +kernel
theorem word_scope : FnScope ["call", "error", "flags"] ["call"] (defScope (Hd.top 106)) := ⟨rfl, rfl, rfl, by decide +kernel, rfl, by decide +kernel, by decide +kernel⟩
theorem mem_fnl {x : Str} {t : Nat} (h : decide ((x, t) ∈ fnl) = true) : (x, t) ∈ fnl := of_decide_eq_true h
theorem word_in : decide ((("_law_word" : Str), 106) ∈ fnl) = true := by decide +kernel
theorem lam_in : (lamN.all fun x => fnl.any fun p => decide (p.1 = x)) = true ∧ (lamN.all fun x => Hd.tf.any fun p => decide (p = (x, none))) = true := by constructor <;> decide +kernel
section
variable {P : Program} {w : World} {K : PySem.W.Frag} {h : Heap} {mg : Str → Option Value}
theorem defs (KX : K.In h) (G : h.Ns mainGlobals mg) (c : He.SaysX Hd.fa Hd.fn Hd.ts Hd.tf Hd.ex w h K) : ∀ p ∈ fnl, ∃ fd, FunD K p.1 p.1 (defArgs (top p.2)) (defBody (top p.2)) (defScope (top p.2)) [] [] (He.fAd K (p.1, none)) fd ∧ mg p.1 = some (.ref (He.fAd K (p.1, none))) := fun p hp => by
  obtain ⟨fd, F⟩ := c.t.d.defs (fnl_fn p hp)
  exact ⟨fd, F, He.glo_ok KX G (c.t.d.facts (faB_ok (List.all_eq_true.mp fa_all.1 p hp)))⟩
theorem ok_int (KX : K.In h) (G : h.Ns mainGlobals mg) (c : He.SaysX Hd.fa Hd.fn Hd.ts Hd.tf Hd.ex w h K) : ∀ p ∈ info.gInt, GloOk K mg p.1 (.int p.2) := fun p hp => by
  obtain ⟨t, e⟩ := He.int_ok KX G (c.t.d.facts (faB_ok (List.all_eq_true.mp fa_all.2.1 p hp)))
  exact ⟨_, .int p.2, e, ⟨t, rfl⟩, fun _ _ => .int _⟩
theorem ok_str (KX : K.In h) (G : h.Ns mainGlobals mg) (c : He.SaysX Hd.fa Hd.fn Hd.ts Hd.tf Hd.ex w h K) : ∀ p ∈ info.gStr, GloOk K mg p.1 (.str p.2) := fun p hp => by
  obtain ⟨t, e⟩ := He.str_ok KX G (c.t.d.facts (faB_ok (List.all_eq_true.mp fa_all.2.2.1 p hp)))
  exact ⟨_, .str p.2, e, ⟨t, rfl⟩, fun _ _ => .str _⟩
theorem ok_free (KX : K.In h) (G : h.Ns mainGlobals mg) (c : He.SaysX Hd.fa Hd.fn Hd.ts Hd.tf Hd.ex w h K) : ∀ x ∈ info.free, mg x = none := fun x hx =>
  He.free_ok KX G (c.t.d.facts (faB_ok (List.all_eq_true.mp fa_all.2.2.2.1 x hx)))
theorem ok_exc (KX : K.In h) (G : h.Ns mainGlobals mg) (c : He.SaysX Hd.fa Hd.fn Hd.ts Hd.tf Hd.ex w h K) : ∀ x ∈ info.exc, ExcOk K mg (He.ga K) x := fun x hx => by
  obtain ⟨h1, h2⟩ := andB (List.all_eq_true.mp fa_all.2.2.2.2.1 x hx)
  obtain ⟨a1, a2, a3, a4⟩ := He.exc_ok (c.t.d.facts (faB_ok h1))
  exact ⟨He.glo_ok KX G (c.t.d.facts (faB_ok h2)), a1, a2, a3, a4⟩
theorem ok_dg (KX : K.In h) (G : h.Ns mainGlobals mg) (c : He.SaysX Hd.fa Hd.fn Hd.ts Hd.tf Hd.ex w h K) : ∀ p ∈ info.dgs, DgOk K w mg p.1 p.2 := fun p hp => by
  have : p = (("EDIT_SIZES" : Str), d_EDIT_SIZES) := by simpa [info] using hp
  subst this
  obtain ⟨h1, h2⟩ := andB c.more
  have e : Hd.ts.map (fun t => He.dicW K (t.1 K)) = Hd.ts.map fun t => some (He.keysIn w.params t.2) := congrArg (fun z : He.AlT => z.2) c.t
  have e2 : He.dicW K (He.ga K "EDIT_SIZES") = some (He.keysIn w.params (Hd.kvs.map (·.1))) := by
    have := congrArg (fun l => l.head?) e
    exact Option.some.inj this
  exact dg_ok (kvs := d_EDIT_SIZES) (He.glo_ok KX G (c.t.d.facts (faB_ok fa_all.2.2.2.2.2.1))) e2 h1
theorem ok_wordE (c : He.SaysX Hd.fa Hd.fn Hd.ts Hd.tf Hd.ex w h K) : ∀ j, j < 4 → WordE K (He.ga K) j := fun j hj => by
  obtain ⟨h1, h2⟩ := andB c.more
  obtain ⟨h3, h4⟩ := andB h2
  have hm : j ∈ ([0, 1, 2, 3] : List Nat) := by
    have : j = 0 ∨ j = 1 ∨ j = 2 ∨ j = 3 := by omega
    rcases this with rfl | rfl | rfl | rfl <;> simp
  exact wordB_ok (List.all_eq_true.mp h3 j hm)
theorem ok_nodup (c : He.SaysX Hd.fa Hd.fn Hd.ts Hd.tf Hd.ex w h K) : (Hd.tf.map fun p => (He.cT K p).2).Nodup := by
  obtain ⟨h1, h2⟩ := andB c.more
  obtain ⟨h3, h4⟩ := andB h2
  exact of_decide_eq_true h4
theorem ok_tab (KX : K.In h) (G : h.Ns mainGlobals mg) (c : He.SaysX Hd.fa Hd.fn Hd.ts Hd.tf Hd.ex w h K) {base : Heap} (TB : ∀ p ∈ Hd.tf.map (He.cT K), LamX.TabB base mg p.1 p.2) :
    ∀ x ∈ lamN, ∀ (oc : Value) (od : Option Addr) (pa : Arguments) (bd : List Stmt) (sc : Scope) (dV kV doc pm : Value) (an : Option Addr) (cdv ct : Value) (osl : Array (Option Value)), K.lookup (He.fAd K (x, none)) = some ⟨oc, od, .func (PySem.W.fnOf x x pa bd sc dV kV doc pm an cdv ct), osl⟩ → TabAt base mg (lamT K) x cdv := by
  intro x hx oc od pa bd sc dV kV doc pm an cdv ct osl lk
  obtain ⟨p, hp, e⟩ := List.any_eq_true.mp (List.all_eq_true.mp lam_in.1 x hx)
  have e := of_decide_eq_true e
  subst e
  obtain ⟨q, hq, e⟩ := List.any_eq_true.mp (List.all_eq_true.mp lam_in.2 _ hx)
  have e := of_decide_eq_true e
  subst e
  obtain ⟨fd, F, _⟩ := defs KX G c p hp
  obtain ⟨oc', od', dV', kV', doc', pm', an', cdv', ct', osl', rfl, lk', hcd, _, _⟩ := F.ex
  rw [lk] at lk'
  have : cdv = cdv' := by
    have h1 := Option.some.inj lk'
    have h2 := congrArg Obj.data h1
    have h3 : PySem.W.fnOf p.1 p.1 pa bd sc dV kV doc pm an cdv ct = PySem.W.fnOf p.1 p.1 _ _ _ dV' kV' doc' pm' an' cdv' ct' := Data.func.inj h2
    exact congrArg FuncData.code h3
  subst this
  obtain ⟨cc, rfl⟩ := He.codeIn_ref hcd
  have ec : He.codeOf K (p.1, none) = cc := He.codeOf_eq lk rfl
  have ecT : (He.cT K (p.1, none)).1 = cc := ec
  refine ⟨cc, (He.cT K (p.1, none)).2, rfl, ?_, List.mem_map.mpr ⟨(p.1, none), hq, rfl⟩, fun r hr e1 => ?_⟩
  · have := TB _ (List.mem_map.mpr ⟨_, hq, rfl⟩)
    rwa [ecT] at this
  · obtain ⟨r0, hr0, rfl⟩ := List.mem_map.mp hr
    have nd := ok_nodup c
    have : r0 = (p.1, none) := by
      obtain ⟨i, hi, ei⟩ := List.mem_iff_getElem.mp hr0
      obtain ⟨j, hj, ej⟩ := List.mem_iff_getElem.mp hq
      have hij : i = j := by
        refine (List.getElem_inj (h₀ := by simpa using hi) (h₁ := by simpa using hj) nd).mp ?_
        rw [List.getElem_map, List.getElem_map, ei, ej]
        exact e1
      subst hij
      rw [← ei, ← ej]
    rw [this]
theorem word_lk : (defScope (top 106)).names.lookup ("call" : Str) = some .local ∧ (defScope (top 106)).names.lookup ("error" : Str) = some .local ∧ (defScope (top 106)).names.lookup ("flags" : Str) = some .local ∧ (defScope (top 106)).names.lookup ("WhyError" : Str) = some .globalImplicit ∧ (defScope (top 106)).names.lookup ("isinstance" : Str) = some .globalImplicit := by
  refine ⟨?_, ?_, ?_, ?_, ?_⟩ <;> decide +kernel
theorem word_ln : ∀ i, i < 4 → (defScope (top 106)).names.lookup (wNm i) = some .globalImplicit := fun i hi => by
  have : i = 0 ∨ i = 1 ∨ i = 2 ∨ i = 3 := by omega
  rcases this with rfl | rfl | rfl | rfl <;> decide +kernel
theorem word_pars : parsB ["call"] (defArgs (top 106)) = true := by decide +kernel
theorem word_db : (info.word == ("__debug__" : Str)) = false := by decide
theorem ok_word (KX : K.In h) (G : h.Ns mainGlobals mg) (c : He.SaysX Hd.fa Hd.fn Hd.ts Hd.tf Hd.ex w h K) {base : Heap} : ∀ (k : Nat) (X : Cx) (W : WX), X.prog = P → X.w = w → X.K = K → X.mg = mg → X.base = base → LamOk (lamT K) X → Room (k + 2) X.A → WordOk info (lamT K) (He.ga K) wdU X W k := by
  intro k X W e1 e2 e3 e4 e5 hl hr
  subst e1 e2 e3 e4 e5
  obtain ⟨fd, F, hm⟩ := defs KX G c _ (mem_fnl word_in)
  have gl : ∀ x, x ∈ info.exc → X.mg x = some (.ref (He.ga X.K x)) := fun x hx => (ok_exc KX G c x hx).gC
  intro a1 a2 a3 a4 a5 a6 a7 b1 b2 b3 b4
  refine wordOk (W := W) (k := k) (I := info) (Ng := ["call", "error", "flags"]) F hm (F.bindsN fun _ _ _ _ _ _ us hl => bind_plain word_pars rfl (by decide) hl) word_db word_scope rfl (fun q cdv => ?_) (ok_wordE c) hl hr b1 b2 b3 b4
  refine word_gives (sg := defScope (top 106)) ⟨gl _ (by decide +kernel), gl _ (by decide +kernel), gl _ (by decide +kernel), gl _ (by decide +kernel), gl _ (by decide +kernel), ok_free KX G c _ (by decide +kernel)⟩ word_lk.1 word_lk.2.1 word_lk.2.2.1 word_lk.2.2.2.1 word_lk.2.2.2.2
    word_ln ?_ ?_ ?_
  all_goals rfl
abbrev tblD : List FDef := rows.map fun r : Wy.Row => r.d
theorem law_row : rows[67]? = some ⟨c67, 111, false, "law"⟩ := rfl
theorem run_law (d : Nat) : run tblD wdU (d + 1) lawI = runBody (run tblD wdU d) wdU c67 := rfl
theorem law_mem : decide ((("law" : Str), 111) ∈ fnl) = true := by decide +kernel
theorem facts {fa : Addr} (KX : K.In h) (G : h.Ns mainGlobals mg) (hfa : mg ("law" : Str) = some (.ref fa)) (c : He.SaysX Hd.fa Hd.fn Hd.ts Hd.tf Hd.ex w h K) :
    ∃ fd : FuncData, (∀ (s : Shared) (v : Value), BindsTo s fd ⟨[v], []⟩ [("script", v)]) ∧ ∀ base : Heap, K.In base → base.Ns mainGlobals mg → (∀ p ∈ Hd.tf.map (He.cT K), LamX.TabB base mg p.1 p.2) →
      FnOk P w K mg base (L2.CX P w) 228 fa fd ["script"] (spU K (lamT K) (He.ga K) 1 (run tblD wdU 76 lawI)) := by
  obtain ⟨fd, F, hm⟩ := defs KX G c _ (mem_fnl law_mem)
  rw [hm] at hfa
  cases hfa
  have rb := rows_ok 67 _ law_row
  obtain ⟨g1, g2⟩ := andB rb
  obtain ⟨b1, b2⟩ := andB g1
  obtain ⟨g3, g4⟩ := andB g2
  obtain ⟨g5, g6⟩ := andB g4
  obtain ⟨a1, a2⟩ := andB g5
  have bA := FunD.bindsA (ps := ["script"]) F fun _ _ _ _ _ _ us hl => bind_plain a1 rfl (of_decide_eq_true a2) hl
  refine ⟨fd, fun s v => bA s [v] rfl, fun base KB GB TB => ?_⟩
  have all := tbl_ok (I := info) (rows := rows) (P := P) (w := w) (K := K) (mg := mg) (base := base) (T := lamT K) (ec := He.ga K) rows_ok len_ok (defs KX G c) (ok_int KX G c) (ok_str KX G c) (ok_free KX G c) (ok_exc KX G c) (ok_dg KX G c) (ok_tab KX G c TB) (ok_word KX G c) 75
  have := fn_okU (lam := false) (wd := wdU) (d := c67) F (scopeB_ok b2) b1 all (fun e => by cases e) (fun e => by cases e)
  rw [← run_law 75] at this
  exact this
theorem start (hp : Plain) {H : Hp} {a : Addr} {ns : List Int} (hl : ns.length ≤ 63) (hT : ∀ p ∈ Hd.tf.map (He.cT K), H p.2 = some (.tbl #[])) (hS : SqL K H a (ns.map V.int)) : spU K (lamT K) (He.ga K) 1 (run tblD wdU 76 lawI) [.ref a] H (fun v _ => v = .bl true) fun _ _ _ => False := by
  obtain ⟨S', e⟩ := hp ns hl
  have tab : LamX.Tabs (lamT K) H := fun p hp => by
    obtain ⟨q, hq, rfl⟩ := List.mem_map.mp hp
    exact LamX.TabS.nil (hT _ (List.mem_map.mpr ⟨q, hq, rfl⟩))
  have hI : ∀ (μ : List Addr) (J : Hp) (ns : List Int), RUs K μ J (ns.map U.int) (ns.map V.int) := fun μ J ns => by
    induction ns with
    | nil => exact .nil
    | cons n ns ih => exact .cons (.int n) ih
  have key : ∀ J : Hp, Sub J H → (∀ b ps, J b ≠ some (.tbl ps)) → SqL K J a (ns.map V.int) → spU K (lamT K) (He.ga K) 1 (run tblD wdU 76 lawI) [.ref a] H (fun v _ => v = .bl true) fun _ _ _ => False := fun J sj jt sq => by
    refine ⟨rfl, [.fz (ns.map .int)], [], [], J, ⟨rfl, sj, rfl, List.nodup_nil, fun r us a e => by simp at e, fun i s o e => by simp at e, fun i j us ws p e => by simp at e, tab, jt⟩, .cons (.fz sq (hI _ _ ns)) .nil, ?_⟩
    rw [e]
    intro v μ' J' H' _ _ r
    cases r
    rfl
  rcases hS with hS | hS
  · refine key (fun b => if b = a then H a else none) (fun b o e => ?_) (fun b ps e => ?_) (.inl ?_)
    · by_cases z : b = a
      · subst z; simpa using e
      · simp [z] at e
    · by_cases z : b = a
      · subst z
        rcases hS with hS | ⟨o, hS⟩ <;> simp [hS] at e
      · simp [z] at e
    · rcases hS with hS | ⟨o, hS⟩
      · exact .inl (by simp [hS])
      · exact .inr ⟨o, by simp [hS]⟩
  · exact key (fun _ => none) (fun b o e => by cases e) (fun b ps e => by cases e) (.inr hS)
theorem cx_no {s : Shared} {e : Value} {s' : Shared} {H : Hp} {P : Program} {w : World} (z : L2.CX P w [] H s (fun _ _ _ => False) e s') : False := by
  obtain ⟨_, _, _, _, _, _, _, _, _, _, _, _, z⟩ := z
  exact z
end
end End49
open PySem PySem.W PySem.Calls PyProof.Rows
theorem k49_of (hp : End49.Plain) : PySem.Challenge.rw_whytongue_k49_whole_states_and_edits.Holds := by
  w_on; o_law
  refine HandSHeadRun.head_any (r := OpenLaw.row PySem.Challenge.rw_whytongue_k49_whole_states_and_edits) (q := view (OpenLaw.row PySem.Challenge.rw_whytongue_k49_whole_states_and_edits).prog [111]) (H := Hd.hk) (ob := Hd.ob) (M := 20000) (loose := Hd.names) (d := HandSHeadRun.topDef (OpenLaw.row PySem.Challenge.rw_whytongue_k49_whole_states_and_edits).prog 111) (kwd := []) Hd.ob_eq
    (by kernel_rfl) (fun s => by kernel_rfl) Hd.run (by kernel_rfl) (by kernel_rfl) (by kernel_rfl) (by rfl) (by first | assumption | decide +kernel) (by decide +kernel) ⟨rfl, rfl, rfl, rfl, rfl, by decide +kernel⟩ ?hw ?hc
  case hw => w_witness2
  case hc =>
    refine Att.attach_callB (l := PySem.Challenge.rw_whytongue_k49_whole_states_and_edits) (n := 63) rfl (by kernel_rfl) fun w s₀ s₁ mg mb fa o pm cd doc a vs ns G Y ho hd hcd hmg0 hobj hints hlen hbits hg => ?_
    obtain ⟨K, KX, c⟩ := Y
    have hmg : mg ("law" : PySem.Str) = some (.ref fa) := by
      have e : (HandSHeadRun.topDef (OpenLaw.row PySem.Challenge.rw_whytongue_k49_whole_states_and_edits).prog 111).name = ("law" : PySem.Str) := by kernel_rfl
      rw [← e]
      exact hmg0
    obtain ⟨fd, hb, hF⟩ := End49.facts (P := (PySem.Challenge.rw_whytongue_k49_whole_states_and_edits).prog) (w := w) KX G.T.g hmg c
    refine LamX.law_callTs (k := 228) (x := "script") (cs := Hd.tf.map (He.cT K)) KX G.T.g G.T.b G.T.builtins G.T.nolimit hg (fun p hp => ?_) (fun p hp => ?_) (fun p hp => ?_) G.T.bmain hobj hints (Nat.le_trans hlen (by decide)) ⟨rfl, by decide, by decide⟩ hF hb (fun H hT hS => End49.start hp hlen hT hS) fun H e s' z => End49.cx_no z
    · obtain ⟨q, hq, rfl⟩ := List.mem_map.mp hp
      exact c.empty q hq
    · obtain ⟨q, hq, rfl⟩ := List.mem_map.mp hp
      exact c.out q hq
    · obtain ⟨q, hq, rfl⟩ := List.mem_map.mp hp
      exact codeHd_of_K KX (c.hd q hq)
end
theorem PySem.Challenge.cw_whytongue_k49_whole_states_and_edits_holds : PySem.Challenge.rw_whytongue_k49_whole_states_and_edits.Holds := by
  exact k49_of Pl.plain
