import PyProof.Rows.All
import Wide.All
import OpenK.AllK
import Wide.FinOn
import KE.KStateDown
import HandS.Head0
import HandS.Head1
import HandS.Head2
import HandS.HeadEnd
import HandS.HeadHook1
import HandS.HeadHook2
import HandS.HeadHook3
import HandS.HeadHook4
import HandS.ExcInit
import KE.KExcInit
import HandS.ForMost
import HandS.Walk
import HandS.TupAny
import HandS.Deep
import HandS.Wide
import HandS.SortRule
import HandS.IsInst
import HandS.Exc
import HandS.WordsExc
import HandS.Defaults
import HandS.Style
import PySem.PyData
import PyProof.EqLayable
import KE.DataEq
import KE.GoesEnum
import HandS.SortOrd
import PyProof.MaxThree
import KE.DataMinMax
import HandS.Flt
import HandS.ForDict
import HandS.More
import HandS.Iter
import PyProof.Rows.SortKeyStr
import PyProof.Rows.StrMeet
import PyProof.Rows.TmSorted
import HandS.Text
import HandS.DeepEq
import HandS.OwnEq
import HandS.StrMore
import HandS.TryOnly
import PySem.Challenge.RW_roomprofile_k76_whole_orders_of_grants
set_option Elab.async false
set_option linter.all false
set_option maxRecDepth 100000
section
set_option autoImplicit false
set_option maxHeartbeats 0
namespace RP
open PySem PySem.Spec PyProof.Rows L2
def top (i : Nat) : Stmt := PySem.Challenge.pw_roomprofile_k76_whole_orders_of_grants.main.body.getD i (.Pass ⟨0, 0, 0, 0⟩)
abbrev reTail : List Value := [.type "RuntimeError", .type "Exception", .type "BaseException", .type "object"]
def ddef (at_ : Str × Option Str) (name qual : Str) (s : Stmt) : He.DefD := ⟨at_, name, qual, defArgs s, defBody s, defScope s, [], []⟩
def d_NotEnough___init : He.DefD := ddef ("NotEnough", some "__init__") "__init__" "NotEnough.__init__" (inClass (top 10) 0)
def d_is_integer : He.DefD := ddef ("is_integer", none) "is_integer" "is_integer" (top 13)
def d_is_between : He.DefD := ddef ("is_between", none) "is_between" "is_between" (top 14)
def d_is_number : He.DefD := ddef ("is_number", none) "is_number" "is_number" (top 15)
def d_is_node : He.DefD := ddef ("is_node", none) "is_node" "is_node" (top 25)
def d_measured : He.DefD := ddef ("measured", none) "measured" "measured" (top 26)
def d_measured_parts : He.DefD := ddef ("measured_parts", none) "measured_parts" "measured_parts" (top 27)
def d_measured_multiple : He.DefD := ddef ("measured_multiple", none) "measured_multiple" "measured_multiple" (top 28)
def d_is_job : He.DefD := ddef ("is_job", none) "is_job" "is_job" (top 29)
def d_check_job : He.DefD := ddef ("check_job", none) "check_job" "check_job" (top 30)
def d_step_count_by : He.DefD := ddef ("step_count_by", none) "step_count_by" "step_count_by" (top 31)
def d_grouped : He.DefD := ddef ("grouped", none) "grouped" "grouped" (top 32)
def d_tidy_parts : He.DefD := ddef ("tidy_parts", none) "tidy_parts" "tidy_parts" (top 33)
def d_tidy_by : He.DefD := ddef ("tidy_by", none) "tidy_by" "tidy_by" (top 34)
def d_as_job : He.DefD := ddef ("as_job", none) "as_job" "as_job" (top 35)
def d_descending : He.DefD := ddef ("descending", none) "descending" "descending" (top 38)
def d_moved : He.DefD := ddef ("moved", none) "moved" "moved" (top 39)
def d_step_profile_by : He.DefD := ddef ("step_profile_by", none) "step_profile_by" "step_profile_by" (top 40)
def d_start_behind : He.DefD := ddef ("start_behind", none) "start_behind" "start_behind" (top 41)
def d_end_behind : He.DefD := ddef ("end_behind", none) "end_behind" "end_behind" (top 42)
def d_two_profiles_by : He.DefD := ddef ("two_profiles_by", none) "two_profiles_by" "two_profiles_by" (top 43)
def d_seq_profiles_by : He.DefD := ddef ("seq_profiles_by", none) "seq_profiles_by" "seq_profiles_by" (top 44)
def d_next_drop : He.DefD := ddef ("next_drop", none) "next_drop" "next_drop" (top 46)
def d_joint : He.DefD := ddef ("joint", none) "joint" "joint" (top 47)
def d_peak_beside : He.DefD := ddef ("peak_beside", none) "peak_beside" "peak_beside" (top 48)
def d_par_profiles_by : He.DefD := ddef ("par_profiles_by", none) "par_profiles_by" "par_profiles_by" (top 49)
def d_rounds_start : He.DefD := ddef ("rounds_start", none) "rounds_start" "rounds_start" (top 51)
def d_repeat_profile_by : He.DefD := ddef ("repeat_profile_by", none) "repeat_profile_by" "repeat_profile_by" (top 52)
def d_copies_start : He.DefD := ddef ("copies_start", none) "copies_start" "copies_start" (top 53)
def d_copies_profile_by : He.DefD := ddef ("copies_profile_by", none) "copies_profile_by" "copies_profile_by" (top 54)
def d_profile_by : He.DefD := ddef ("profile_by", none) "profile_by" "profile_by" (top 56)
def d_least_peak : He.DefD := ddef ("least_peak", none) "least_peak" "least_peak" (top 58)
def d_inner_at : He.DefD := ddef ("inner_at", none) "inner_at" "inner_at" (top 60)
def d_step_by : He.DefD := ddef ("step_by", none) "step_by" "step_by" (top 61)
def d_is_address_by : He.DefD := ddef ("is_address_by", none) "is_address_by" "is_address_by" (top 62)
def d_step_value : He.DefD := ddef ("step_value", none) "step_value" "step_value" (top 63)
def d_is_name : He.DefD := ddef ("is_name", none) "is_name" "is_name" (top 67)
def d_choices_by : He.DefD := ddef ("choices_by", none) "choices_by" "choices_by" (top 69)
def d_is_choice_by : He.DefD := ddef ("is_choice_by", none) "is_choice_by" "is_choice_by" (top 70)
def d_check_choice : He.DefD := ddef ("check_choice", none) "check_choice" "check_choice" (top 71)
def d_left_by : He.DefD := ddef ("left_by", none) "left_by" "left_by" (top 72)
def d_remainder_by : He.DefD := ddef ("remainder_by", none) "remainder_by" "remainder_by" (top 73)
def d_choices : He.DefD := ddef ("choices", none) "choices" "choices" (top 74)
def d_do_step : He.DefD := ddef ("do_step", none) "do_step" "do_step" (top 75)
def d_check_limit : He.DefD := ddef ("check_limit", none) "check_limit" "check_limit" (top 78)
def d_joint_of : He.DefD := ddef ("joint_of", none) "joint_of" "joint_of" (top 79)
def d_usage_in : He.DefD := ddef ("usage_in", none) "usage_in" "usage_in" (top 80)
def d_need_in : He.DefD := ddef ("need_in", none) "need_in" "need_in" (top 81)
def d_check_joint : He.DefD := ddef ("check_joint", none) "check_joint" "check_joint" (top 82)
def d_check_safe : He.DefD := ddef ("check_safe", none) "check_safe" "check_safe" (top 83)
def d_stepped : He.DefD := ddef ("stepped", none) "stepped" "stepped" (top 84)
def d_Keeper___init : He.DefD := ddef ("Keeper", some "__init__") "__init__" "Keeper.__init__" (inClass (top 85) 0)
def d_Keeper_usage : He.DefD := ddef ("Keeper", some "usage") "usage" "Keeper.usage" (inClass (top 85) 2)
def d_Keeper_need : He.DefD := ddef ("Keeper", some "need") "need" "Keeper.need" (inClass (top 85) 3)
def d_Keeper_check_known : He.DefD := ddef ("Keeper", some "check_known") "check_known" "Keeper.check_known" (inClass (top 85) 5)
def d_Keeper_remaining : He.DefD := ddef ("Keeper", some "remaining") "remaining" "Keeper.remaining" (inClass (top 85) 6)
def d_Keeper_change : He.DefD := ddef ("Keeper", some "change") "change" "Keeper.change" (inClass (top 85) 8)
def d_Keeper_admit : He.DefD := ddef ("Keeper", some "admit") "admit" "Keeper.admit" (inClass (top 85) 9)
def d_Keeper_after : He.DefD := ddef ("Keeper", some "after") "after" "Keeper.after" (inClass (top 85) 10)
def d_Keeper_grant : He.DefD := ddef ("Keeper", some "grant") "grant" "Keeper.grant" (inClass (top 85) 11)
def d_Keeper___eq : He.DefD := ddef ("Keeper", some "__eq__") "__eq__" "Keeper.__eq__" (inClass (top 85) 23)
def d_law_begun : He.DefD := ddef ("_law_begun", none) "_law_begun" "_law_begun" (top 87)
def d_law_draw : He.DefD := ddef ("_law_draw", none) "_law_draw" "_law_draw" (top 88)
def d_law_great : He.DefD := ddef ("_law_great", none) "_law_great" "_law_great" (top 89)
def d_law_drawn_step : He.DefD := ddef ("_law_drawn_step", none) "_law_drawn_step" "_law_drawn_step" (top 90)
def d_law_drawn_job : He.DefD := ddef ("_law_drawn_job", none) "_law_drawn_job" "_law_drawn_job" (top 91)
def d_law_great_job : He.DefD := ddef ("_law_great_job", none) "_law_great_job" "_law_great_job" (top 92)
def d_law_drawn_names : He.DefD := ddef ("_law_drawn_names", none) "_law_drawn_names" "_law_drawn_names" (top 93)
def d_law_drawn_row : He.DefD := ddef ("_law_drawn_row", none) "_law_drawn_row" "_law_drawn_row" (top 94)
def d_law_mix : He.DefD := ddef ("_law_mix", none) "_law_mix" "_law_mix" (top 95)
def d_law_led : He.DefD := ddef ("_law_led", none) "_law_led" "_law_led" (top 96)
def d_law : He.DefD := ddef ("law", none) "law" "law" (top 97)
def fn0 : List He.DefD := [d_NotEnough___init, d_is_integer, d_is_between, d_is_number, d_is_node, d_measured, d_measured_parts, d_measured_multiple, d_is_job, d_check_job, d_step_count_by, d_grouped, d_tidy_parts, d_tidy_by, d_as_job, d_descending, d_moved, d_step_profile_by, d_start_behind, d_end_behind]
def fn1 : List He.DefD := [d_two_profiles_by, d_seq_profiles_by, d_next_drop, d_joint, d_peak_beside, d_par_profiles_by, d_rounds_start, d_repeat_profile_by, d_copies_start, d_copies_profile_by, d_profile_by, d_least_peak, d_inner_at, d_step_by, d_is_address_by, d_step_value, d_is_name, d_choices_by, d_is_choice_by, d_check_choice]
def fn2 : List He.DefD := [d_left_by, d_remainder_by, d_choices, d_do_step, d_check_limit, d_joint_of, d_usage_in, d_need_in, d_check_joint, d_check_safe, d_stepped, d_Keeper___init, d_Keeper_usage, d_Keeper_need, d_Keeper_check_known, d_Keeper_remaining, d_Keeper_change, d_Keeper_admit, d_Keeper_after, d_Keeper_grant]
def fn3 : List He.DefD := [d_Keeper___eq, d_law_begun, d_law_draw, d_law_great, d_law_drawn_step, d_law_drawn_job, d_law_great_job, d_law_drawn_names, d_law_drawn_row, d_law_mix, d_law_led, d_law]
def fn : List He.DefD := fn0 ++ fn1 ++ fn2 ++ fn3
def ln0 : List Str := ["_wall", "__name__", "JobError", "InvalidJob", "InvalidAddress", "InvalidChoice", "UnknownName", "NameConflict", "InvalidNumber", "TooMany", "NotEnough", "MAX_INTEGER", "is_integer", "is_between", "is_number", "MAX_STEP", "MAX_COUNT", "MAX_PARTS", "MAX_NODES", "MAX_DEPTH", "GROUPS", "MULTIPLES", "EMPTY_jobs", "is_node", "measured", "measured_parts", "measured_multiple", "is_job", "check_job", "step_count_by"]
def ln1 : List Str := ["grouped", "tidy_parts", "tidy_by", "as_job", "EMPTY_basic", "descending", "moved", "step_profile_by", "start_behind", "end_behind", "two_profiles_by", "seq_profiles_by", "next_drop", "joint", "peak_beside", "par_profiles_by", "rounds_start", "repeat_profile_by", "copies_start", "copies_profile_by", "profile_by", "least_peak", "inner_at", "step_by", "is_address_by", "step_value", "LETTERS", "MAX_LETTERS", "is_name", "choices_by"]
def ln2 : List Str := ["is_choice_by", "check_choice", "left_by", "remainder_by", "choices", "do_step", "MAX_JOBS", "check_limit", "joint_of", "usage_in", "need_in", "check_joint", "check_safe", "stepped", "Keeper", "_law_begun", "_law_draw", "_law_great", "_law_drawn_step", "_law_drawn_job", "_law_great_job", "_law_drawn_names", "_law_drawn_row", "_law_mix", "_law_led"]
def ln : List Str := ln0 ++ ln1 ++ ln2
def fa0 : List He.Fa := [.glo "is_integer", .glo "is_between", .glo "is_number", .glo "is_node", .glo "measured", .glo "measured_parts", .glo "measured_multiple", .glo "is_job", .glo "check_job", .glo "step_count_by", .glo "grouped", .glo "tidy_parts", .glo "tidy_by", .glo "as_job", .glo "descending", .glo "moved", .glo "step_profile_by", .glo "start_behind", .glo "end_behind", .glo "two_profiles_by", .glo "seq_profiles_by", .glo "next_drop", .glo "joint", .glo "peak_beside", .glo "par_profiles_by", .glo "rounds_start", .glo "repeat_profile_by", .glo "copies_start", .glo "copies_profile_by", .glo "profile_by"]
def fa1 : List He.Fa := [.glo "least_peak", .glo "inner_at", .glo "step_by", .glo "is_address_by", .glo "step_value", .glo "is_name", .glo "choices_by", .glo "is_choice_by", .glo "check_choice", .glo "left_by", .glo "remainder_by", .glo "choices", .glo "do_step", .glo "check_limit", .glo "joint_of", .glo "usage_in", .glo "need_in", .glo "check_joint", .glo "check_safe", .glo "stepped", .glo "_law_begun", .glo "_law_draw", .glo "_law_great", .glo "_law_drawn_step", .glo "_law_drawn_job", .glo "_law_great_job", .glo "_law_drawn_names", .glo "_law_drawn_row", .glo "_law_mix", .glo "_law_led"]
def fa2 : List He.Fa := [.glo "law", .glo "GROUPS", .glo "MULTIPLES", .glo "EMPTY_jobs", .glo "EMPTY_basic", .glo "Keeper", .glo "NotEnough", .free "isinstance", .free "int", .free "bool", .free "tuple", .free "str", .free "len", .free "sum", .free "sorted", .free "max", .free "min", .free "enumerate", .free "zip", .free "range", .free "all", .free "abs", .free "dict", .free "RuntimeError", .int "MAX_INTEGER" 9999999999999999999999999999999999999999999999999999999999999, .int "MAX_STEP" 1000000000000000000000000000000, .int "MAX_COUNT" 1000000000000000000000000000000, .int "MAX_PARTS" 400, .int "MAX_NODES" 400, .int "MAX_DEPTH" 13]
def fa3 : List He.Fa := [.int "MAX_JOBS" 20, .int "MAX_LETTERS" 8, .str "LETTERS" "abcdefghijklmnopqrstuvwxyz", .cls "Keeper", .noat "Keeper" "limit", .noat "Keeper" "jobs", .noat "Keeper" "rows", .noat "Keeper" "earlier", .meth "Keeper" "usage", .meth "Keeper" "need", .meth "Keeper" "check_known", .meth "Keeper" "remaining", .meth "Keeper" "change", .meth "Keeper" "admit", .meth "Keeper" "after", .meth "Keeper" "grant", .meth "Keeper" "__eq__", .mkr "Keeper", .exm "NotEnough" "NotEnough" true]
def fa : List He.Fa := fa0 ++ fa1 ++ fa2 ++ fa3
def toVv : Value → V
  | .int i _ => .int i
  | .str x _ => .str x
  | .ref a => .ref a
  | _ => .non
def dtAll (f : Value → PyData → Bool) : List Value → List PyData → Bool
  | [], [] => true
  | v :: vs, d :: ds => f v d && dtAll f vs ds
  | _, _ => false
def dtB (K : PySem.W.Frag) : Nat → Value → PyData → Bool
  | 0, _, _ => false
  | n + 1, v, x => match v, x with
    | .int i _, .int j => decide (i = j)
    | .str a _, .str b => decide (a = b)
    | .ref a, .tuple ds => (match K.lookup a with
      | some ⟨.type c, _, .seq its _, _⟩ => decide (c = "tuple") && (decide (its.size ≤ sizeLine) && dtAll (dtB K n) its.toList ds)
      | _ => false)
    | _, _ => false
def reB (K : PySem.W.Frag) (C : Addr) : Bool := match K.lookup C with
  | some ⟨.type "type", _, .cls cd, sl⟩ => (match sl.toList with
    | [_, _, _, _, some (.builtin n), _] => decide (cd.mro = .ref C :: reTail) && (n == "RuntimeError.__new__" && (!cd.hasDel && cd.hasDict))
    | _ => false)
  | _ => false
def exK (K : PySem.W.Frag) : Bool := He.eqO (PySem.W.findIn K (.ref (He.ga K "Keeper")) "__class__") (some (some (.builtin "object.__class__"))) &&
  (He.eqO (PySem.W.specialIn K (.builtin "object.__class__") "__get__") (some (some (.builtin "getset_descriptor.__get__"))) &&
  (decide (PySem.W.takesIn K (.builtin "object.__class__") = some true) && decide (PySem.W.mroIn K (He.ga K "Keeper") (.type "object") = some true)))
def exN (K : PySem.W.Frag) : Bool := reB K (He.ga K "NotEnough") &&
  (He.eqO (PySem.W.findIn K (.ref (He.ga K "NotEnough")) "__setattr__") (some (some (.builtin "object.__setattr__"))) &&
  (decide (PySem.W.subIn K (.ref (He.ga K "NotEnough")) (.type "BaseException") = some true) &&
  (decide (PySem.W.typeIn K (.ref (He.ga K "NotEnough")) = some (.type "type")) &&
  (PySem.W.keepIn K (.ref (He.ga K "NotEnough")) &&
  (He.eqO (PySem.W.findIn K (.ref (He.ga K "NotEnough")) "least") (some none) &&
  (He.eqO (PySem.W.findIn K (.ref (He.ga K "NotEnough")) "__init__") (some (some (.ref (He.ma K (He.ga K "NotEnough") "__init__")))) &&
  decide (PySem.W.typeIn K (.ref (He.ma K (He.ga K "NotEnough") "__init__")) = some (.type "function"))))))))
def exV (K : PySem.W.Frag) : Bool := match PySem.W.findCls K (.type "RuntimeError") (.type "type") "__init__" with
  | some (.val v) => decide (v = .builtin "RuntimeError.__init__")
  | _ => false
def dK_GROUPS : PyData := .tuple [.str "seq", .str "par"]
def dK_MULTIPLES : PyData := .tuple [.str "repeat", .str "copies"]
def dK_EMPTY_jobs : PyData := .tuple [.str "seq", .tuple []]
def dK_EMPTY_basic : PyData := .tuple [.int 0, .int 0, .tuple [.tuple [.int 0, .int 0]], .tuple [.tuple [.int 0, .int 0]]]
def exT (K : PySem.W.Frag) : Bool := dtB K 6 (.ref (He.ga K "GROUPS")) dK_GROUPS && (dtB K 6 (.ref (He.ga K "MULTIPLES")) dK_MULTIPLES && (dtB K 6 (.ref (He.ga K "EMPTY_jobs")) dK_EMPTY_jobs && (dtB K 6 (.ref (He.ga K "EMPTY_basic")) dK_EMPTY_basic)))
def ex (K : PySem.W.Frag) : Bool := exK K && (exN K && (exV K && exT K))
abbrev Rw : PySem.W.OpenRow := PySem.W.OpenLaw.row PySem.Challenge.rw_roomprofile_k76_whole_orders_of_grants
abbrev hk : PySem.W.Hook := He.hookX 4 fa fn [] [] ex
def ob (s : PySem.W.SharedT) : He.AlX := He.obsX 4 fa fn [] [] ex (HandSHeadRun.getT s)
theorem ob_eq (s : PySem.W.SharedT) : ob s = hk.obs s.abs := He.obsX_eq (HandSHeadRun.getT_eq s)
end RP
end
section
set_option autoImplicit false
set_option maxHeartbeats 0
namespace RP
open PySem PySem.Spec PyProof.Rows L2
open HandSHeadRun PySem.W
abbrev vw : Program := PySem.W.view Rw.prog [97]
noncomputable abbrev fin_ (w : World) (os : OsState) : Option PySem.W.SharedT := endF (stepQ (denQ tabQ) Rw.prog w) 6000 Rw.prog w os
abbrev fr (s : PySem.W.SharedT) : PySem.W.Frag := He.frG (getT s) (He.asD (getT s) 4)
theorem run1 (w : World) : ∀ os : OsState, (fin_ w os).map (fun s => looksF Rw.prog (PySem.W.boot_heap w.params) s.abs) = some true := by
  intro os
  kernel_rfl
theorem run2 (w : World) : ∀ os : OsState, (fin_ w os).map (fun s => seenQ vw ln (importedModules Rw.prog.main.body) (fun s => xlAt vw [] s && recOk Rw.toRowW.records s) s.abs) = some (openGood vw ln) := by
  intro os
  kernel_rfl
theorem run3 (w : World) : ∀ os : OsState, (fin_ w os).map (fun s => fa.all fun f => f.ok (fr s)) = some true := by
  intro os
  kernel_rfl
theorem run4 (w : World) : ∀ os : OsState, (fin_ w os).map (fun s => He.obsD [] fn (fr s)) = some (He.valD fn) := by
  intro os
  kernel_rfl
theorem run5 (w : World) : ∀ os : OsState, (fin_ w os).map (fun s => ex (fr s)) = some true := by
  intro os
  kernel_rfl
end RP
end
section
set_option maxHeartbeats 2000000
namespace RP
open PySem PySem.Spec PyProof.Rows L2

/-! ### data -/
/-- a tuple that stands for good -/
def TupAt (K : PySem.W.Frag) (H : Hp) (a : Addr) (xs : List V) : Prop :=
  H a = some (.tup xs) ∨ ∃ (o : Obj) (its : Array Value) (n : Nat), K.lookup a = some o ∧ o.cls = .type "tuple" ∧ o.data = .seq its n ∧ its.size ≤ sizeLine ∧ Vals xs its.toList
theorem TupAt.sq {K : PySem.W.Frag} {H : Hp} {a : Addr} {xs : List V} (h : TupAt K H a xs) : SqT K H a xs := by
  rcases h with h | h
  · exact .inl (.inl h)
  · exact .inr h
/-- tuples stand as they stood -/
def TK (H H' : Hp) : Prop := ∀ a xs, H a = some (.tup xs) → H' a = some (.tup xs)
theorem TK.refl (H : Hp) : TK H H := fun _ _ h => h
theorem TK.trans {H H1 H2 : Hp} (a : TK H H1) (b : TK H1 H2) : TK H H2 := fun c xs h => b c xs (a c xs h)
theorem TK.of {H H' : Hp} (s : Same H H') : TK H H' := fun a xs h => s a _ h
theorem TK.upd {H : Hp} {a : Addr} {o : HO} (h : ∀ xs, H a ≠ some (.tup xs)) : TK H (upd H a o) := fun b xs e => by
  rw [upd_ne (by rintro rfl; exact h xs e)]
  exact e
theorem TupAt.keep {K : PySem.W.Frag} {H H' : Hp} {a : Addr} {xs : List V} (k : TK H H') (h : TupAt K H a xs) : TupAt K H' a xs := by
  rcases h with h | h
  · exact .inl (k a xs h)
  · exact .inr h
mutual
inductive Dt (K : PySem.W.Frag) (H : Hp) : V → PyData → Prop
  | non : Dt K H .non .none
  | bl (b : Bool) : Dt K H (.bl b) (.bool b)
  | int (i : Int) : Dt K H (.int i) (.int i)
  | str (x : Str) : Dt K H (.str x) (.str x)
  | tup {a : Addr} {xs : List V} {ds : List PyData} : TupAt K H a xs → DtL K H xs ds → Dt K H (.ref a) (.tuple ds)
inductive DtL (K : PySem.W.Frag) (H : Hp) : List V → List PyData → Prop
  | nil : DtL K H [] []
  | cons {v : V} {vs : List V} {d : PyData} {ds : List PyData} : Dt K H v d → DtL K H vs ds → DtL K H (v :: vs) (d :: ds)
end
section
variable {K : PySem.W.Frag} {H H' : Hp}
mutual
theorem Dt.keep (k : TK H H') : ∀ {v : V} {d : PyData}, Dt K H v d → Dt K H' v d
  | _, _, .non => .non
  | _, _, .bl b => .bl b
  | _, _, .int i => .int i
  | _, _, .str x => .str x
  | _, _, .tup h l => .tup (h.keep k) (DtL.keep k l)
theorem DtL.keep (k : TK H H') : ∀ {vs : List V} {ds : List PyData}, DtL K H vs ds → DtL K H' vs ds
  | _, _, .nil => .nil
  | _, _, .cons h t => .cons (Dt.keep k h) (DtL.keep k t)
end
mutual
theorem Dt.dp : ∀ {v : V} {d : PyData}, Dt K H v d → Dp K H v d
  | _, _, .non => .non
  | _, _, .bl b => .bl b
  | _, _, .int i => .int i
  | _, _, .str x => .str x
  | _, _, .tup h l => .tup h.sq (DtL.dp l)
theorem DtL.dp : ∀ {vs : List V} {ds : List PyData}, DtL K H vs ds → DpAll K H vs ds
  | _, _, .nil => .nil
  | _, _, .cons h t => .cons (Dt.dp h) (DtL.dp t)
end
theorem DtL.length : ∀ {vs : List V} {ds : List PyData}, DtL K H vs ds → vs.length = ds.length
  | _, _, .nil => rfl
  | _, _, .cons _ t => congrArg Nat.succ (DtL.length t)
theorem DtL.append : ∀ {vs ws : List V} {ds es : List PyData}, DtL K H vs ds → DtL K H ws es → DtL K H (vs ++ ws) (ds ++ es)
  | _, _, _, _, .nil, s => s
  | _, _, _, _, .cons h t, s => .cons h (DtL.append t s)
theorem DtL.get : ∀ {vs : List V} {ds : List PyData} {i : Nat} {d : PyData}, DtL K H vs ds → ds[i]? = some d → ∃ v, vs[i]? = some v ∧ Dt K H v d
  | _, _, _, _, .nil, e => by simp at e
  | _, _, 0, _, .cons h _, e => by
    simp at e
    subst e
    exact ⟨_, rfl, h⟩
  | _, _, i + 1, _, .cons _ t, e => by
    obtain ⟨v, h1, h2⟩ := DtL.get (i := i) t (by simpa using e)
    exact ⟨v, by simpa using h1, h2⟩
theorem DtL.at : ∀ {vs : List V} {ds : List PyData} {i : Nat} {v : V}, DtL K H vs ds → vs[i]? = some v → ∃ d, ds[i]? = some d ∧ Dt K H v d
  | _, _, _, _, .nil, e => by simp at e
  | _, _, 0, _, .cons h _, e => by
    simp at e
    subst e
    exact ⟨_, rfl, h⟩
  | _, _, i + 1, _, .cons _ t, e => by
    obtain ⟨d, h1, h2⟩ := DtL.at (i := i) t (by simpa using e)
    exact ⟨d, by simpa using h1, h2⟩
theorem DtL.set {v : V} {d : PyData} (h : Dt K H v d) : ∀ {vs : List V} {ds : List PyData} (i : Nat), DtL K H vs ds → DtL K H (vs.set i v) (ds.set i d)
  | _, _, _, .nil => .nil
  | _, _, 0, .cons _ t => .cons h t
  | _, _, i + 1, .cons q t => .cons q (DtL.set h i t)
theorem DtL.take : ∀ {vs : List V} {ds : List PyData} (n : Nat), DtL K H vs ds → DtL K H (vs.take n) (ds.take n)
  | _, _, 0, _ => .nil
  | _, _, _ + 1, .nil => .nil
  | _, _, n + 1, .cons r t => .cons r (DtL.take n t)
theorem DtL.drop : ∀ {vs : List V} {ds : List PyData} (n : Nat), DtL K H vs ds → DtL K H (vs.drop n) (ds.drop n)
  | _, _, 0, r => r
  | _, _, _ + 1, .nil => .nil
  | _, _, n + 1, .cons _ t => DtL.drop n t
theorem DtL.ints : ∀ {vs : List V} {ns : List Int}, DtL K H vs (ns.map PyData.int) → vs = ns.map V.int
  | _, [], .nil => rfl
  | _, n :: ns, .cons h t => by
    cases h
    rw [DtL.ints t]
    rfl
theorem DtL.of_ints : ∀ ns : List Int, DtL K H (ns.map V.int) (ns.map PyData.int)
  | [] => .nil
  | n :: ns => .cons (.int n) (DtL.of_ints ns)
theorem Dt.isInt {v : V} {i : Int} (h : Dt K H v (.int i)) : v = .int i := by cases h; rfl
theorem Dt.isStr {v : V} {x : Str} (h : Dt K H v (.str x)) : v = .str x := by cases h; rfl
theorem Dt.isBool {v : V} {b : Bool} (h : Dt K H v (.bool b)) : v = .bl b := by cases h; rfl
theorem Dt.isNone {v : V} (h : Dt K H v .none) : v = .non := by cases h; rfl
theorem Dt.isTup {v : V} {ds : List PyData} (h : Dt K H v (.tuple ds)) : ∃ a xs, v = .ref a ∧ TupAt K H a xs ∧ DtL K H xs ds := by
  cases h with
  | tup h l => exact ⟨_, _, rfl, h, l⟩
end

/-! ### all but lists stands as it stood -/
def NL (H H' : Hp) : Prop := ∀ b u, (∀ xs, u ≠ HO.lst xs) → H b = some u → H' b = some u
theorem NL.refl (H : Hp) : NL H H := fun _ _ _ h => h
theorem NL.trans {H H1 H2 : Hp} (a : NL H H1) (b : NL H1 H2) : NL H H2 := fun c u n h => b c u n (a c u n h)
theorem NL.of {H H' : Hp} (s : Same H H') : NL H H' := fun b u _ h => s b u h
theorem NL.upd {H : Hp} {a : Addr} {vs : List V} {o : HO} (h : H a = some (.lst vs)) : NL H (upd H a o) := fun b u n e => by
  rw [upd_ne (by rintro rfl; rw [h] at e; cases e; exact n vs rfl)]
  exact e
/-- what is said of a value holds while all but lists stands -/
def Fst (R : Hp → V → Prop) (H : Hp) (v : V) : Prop := ∀ G, NL H G → R G v
theorem Fst.mono {R : Hp → V → Prop} {H H' : Hp} {v : V} (n : NL H H') (h : Fst R H v) : Fst R H' v := fun G g => h G (n.trans g)
theorem Fst.now {R : Hp → V → Prop} {H : Hp} {v : V} (h : Fst R H v) : R H v := h H (NL.refl H)
/-! ### environments -/
inductive Sl where
  | un
  | d (x : PyData)
  | l (xs : List PyData)
  | f (xs : List PyData)
  | g (R : Hp → V → Prop)
/-- what a value is to an expression: data, a new list, a list that may be read -/
inductive Rk where
  | d (x : PyData)
  | l (xs : List PyData)
  | s (xs : List PyData)
  | t (n : String)
  | g (R : Hp → V → Prop)
def Sl.isL : Sl → Bool
  | .l _ => true
  | .f _ => true
  | _ => false
def Sl.isOwn : Sl → Bool
  | .l _ => true
  | _ => false
def Sat (K : PySem.W.Frag) (H0 H : Hp) : Sl → V → Prop
  | .un, _ => True
  | .d x, v => Dt K H v x
  | .l xs, v => ∃ a vs, v = .ref a ∧ H a = some (.lst vs) ∧ DtL K H vs xs ∧ H0 a = none
  | .f xs, v => ∃ a vs, v = .ref a ∧ H a = some (.lst vs) ∧ DtL K H vs xs
  | .g R, v => Fst R H v
structure Rp (K : PySem.W.Frag) (H0 : Hp) (Γ : List Sl) (σ : L2.St) (H : Hp) : Prop where
  same : Same H0 H
  len : σ.length = Γ.length
  at_ : ∀ (i : Nat) (s : Sl), Γ[i]? = some s → s ≠ .un → ∃ v, σ[i]? = some (some v) ∧ Sat K H0 H s v
  dis : ∀ (i j : Nat) (s u : Sl), i ≠ j → Γ[i]? = some s → Γ[j]? = some u → s.isOwn = true → u.isL = true → σ[i]? ≠ σ[j]?
def Res (K : PySem.W.Frag) (H H' : Hp) : Rk → V → Prop
  | .d x, v => Dt K H' v x
  | .l xs, v => ∃ p vs, v = .ref p ∧ H p = none ∧ H' p = some (.lst vs) ∧ DtL K H' vs xs
  | .s xs, v => ∃ p vs, v = .ref p ∧ H' p = some (.lst vs) ∧ DtL K H' vs xs
  | .t n, v => v = .ty n
  | .g R, v => Fst R H' v
section
variable {K : PySem.W.Frag} {H0 H H' H'' : Hp} {Γ : List Sl} {σ : L2.St}
theorem Sat.mono {s : Sl} {v : V} (e : Same H H') (h : Sat K H0 H s v) : Sat K H0 H' s v := by
  cases s with
  | un => trivial
  | d x => exact Dt.keep (TK.of e) h
  | l xs =>
    obtain ⟨a, vs, h1, h2, h3, h4⟩ := h
    exact ⟨a, vs, h1, e _ _ h2, DtL.keep (TK.of e) h3, h4⟩
  | f xs =>
    obtain ⟨a, vs, h1, h2, h3⟩ := h
    exact ⟨a, vs, h1, e _ _ h2, DtL.keep (TK.of e) h3⟩
  | g R => exact Fst.mono (NL.of e) h
theorem Rp.mono (r : Rp K H0 Γ σ H) (e : Same H H') : Rp K H0 Γ σ H' where
  same := r.same.trans e
  len := r.len
  at_ := fun i s h n => by
    obtain ⟨v, h1, h2⟩ := r.at_ i s h n
    exact ⟨v, h1, h2.mono e⟩
  dis := r.dis
theorem Res.mono {r : Rk} {v : V} (e : Same H' H'') (h : Res K H H' r v) : Res K H H'' r v := by
  cases r with
  | d x => exact Dt.keep (TK.of e) h
  | l xs =>
    obtain ⟨p, vs, h1, h2, h3, h4⟩ := h
    exact ⟨p, vs, h1, h2, e _ _ h3, DtL.keep (TK.of e) h4⟩
  | s xs =>
    obtain ⟨p, vs, h1, h2, h3⟩ := h
    exact ⟨p, vs, h1, e _ _ h2, DtL.keep (TK.of e) h3⟩
  | t n => exact h
  | g R => exact Fst.mono (NL.of e) h
/-- new against an earlier heap -/
theorem Res.back {r : Rk} {v : V} {G : Hp} (e : Same G H) (h : Res K H H' r v) : Res K G H' r v := by
  cases r with
  | d x => exact h
  | l xs =>
    obtain ⟨p, vs, h1, h2, h3, h4⟩ := h
    exact ⟨p, vs, h1, e.free h2, h3, h4⟩
  | s xs => exact h
  | t n => exact h
  | g R => exact h
/-- a new list may be read -/
def Rk.weak : Rk → Rk
  | .l xs => .s xs
  | r => r
theorem Res.weak {r : Rk} {v : V} (h : Res K H H' r v) : Res K H H' r.weak v := by
  cases r with
  | d x => exact h
  | l xs =>
    obtain ⟨p, vs, h1, h2, h3, h4⟩ := h
    exact ⟨p, vs, h1, h3, h4⟩
  | s xs => exact h
  | t n => exact h
  | g R => exact h
/-- a value goes to a slot -/
def Rk.sl : Rk → Sl
  | .d x => .d x
  | .l xs => .l xs
  | .s xs => .un
  | .t n => .un
  | .g R => .g R
theorem getElem?_set' {α : Type} {l : List α} {i j : Nat} {a : α} : (l.set i a)[j]? = if i = j then (if i < l.length then some a else none) else l[j]? := by
  rw [List.getElem?_set]
theorem Rp.set (r : Rp K H0 Γ σ H) {i : Nat} {s : Sl} {v : V} (hs : Sat K H0 H s v)
    (h1 : s.isOwn = true → ∀ (j : Nat) (u : Sl), j ≠ i → Γ[j]? = some u → u.isL = true → σ[j]? ≠ some (some v))
    (h2 : s.isL = true → ∀ (j : Nat) (u : Sl), j ≠ i → Γ[j]? = some u → u.isOwn = true → σ[j]? ≠ some (some v)) : Rp K H0 (Γ.set i s) (σ.set i (some v)) H where
  same := r.same
  len := by rw [List.length_set, List.length_set]; exact r.len
  at_ := fun j t h n => by
    rw [getElem?_set'] at h ⊢
    by_cases e : i = j
    · subst e
      rw [if_pos rfl] at h ⊢
      by_cases hl : i < Γ.length
      · rw [if_pos hl] at h
        cases h
        rw [if_pos (by rw [r.len]; exact hl)]
        exact ⟨v, rfl, hs⟩
      · rw [if_neg hl] at h
        cases h
    · rw [if_neg e] at h ⊢
      exact r.at_ j t h n
  dis := fun j k t u ne hj hk ho hl => by
    rw [getElem?_set'] at hj hk ⊢
    rw [getElem?_set']
    by_cases e : i = j
    · subst e
      rw [if_pos rfl] at hj ⊢
      rw [if_neg ne] at hk ⊢
      by_cases hi : i < Γ.length
      · rw [if_pos hi] at hj
        cases hj
        rw [if_pos (by rw [r.len]; exact hi)]
        exact fun z => h1 ho k u (Ne.symm ne) hk hl z.symm
      · rw [if_neg hi] at hj
        cases hj
    · rw [if_neg e] at hj ⊢
      by_cases e2 : i = k
      · subst e2
        rw [if_pos rfl] at hk ⊢
        by_cases hi : i < Γ.length
        · rw [if_pos hi] at hk
          cases hk
          rw [if_pos (by rw [r.len]; exact hi)]
          exact h2 hl j t (fun z => e z.symm) hj ho
        · rw [if_neg hi] at hk
          cases hk
      · rw [if_neg e2] at hk ⊢
        exact r.dis j k t u ne hj hk ho hl
end
end RP
end
section
set_option maxHeartbeats 2000000
namespace RP
open PySem PySem.Spec PyProof.Rows L2

/-! ### arguments -/
def Ag (K : PySem.W.Frag) (H : Hp) : Rk → V → Prop
  | .d x, v => Dt K H v x
  | .l xs, v => ∃ p vs, v = .ref p ∧ H p = some (.lst vs) ∧ DtL K H vs xs
  | .s xs, v => ∃ p vs, v = .ref p ∧ H p = some (.lst vs) ∧ DtL K H vs xs
  | .t n, v => v = .ty n
  | .g R, v => Fst R H v
def AgL (K : PySem.W.Frag) (H : Hp) : List V → List Rk → Prop
  | [], [] => True
  | v :: vs, r :: rs => Ag K H r v ∧ AgL K H vs rs
  | _, _ => False
section
variable {K : PySem.W.Frag} {H0 H H' H'' : Hp} {Γ : List Sl} {σ : L2.St}
theorem Res.ag {r : Rk} {v : V} (h : Res K H H' r v) : Ag K H' r v := by
  cases r with
  | d x => exact h
  | l xs =>
    obtain ⟨p, vs, h1, _, h3, h4⟩ := h
    exact ⟨p, vs, h1, h3, h4⟩
  | s xs => exact h
  | t n => exact h
  | g R => exact h
theorem Ag.mono {r : Rk} {v : V} (e : Same H H') (h : Ag K H r v) : Ag K H' r v := by
  cases r with
  | d x => exact Dt.keep (TK.of e) h
  | l xs =>
    obtain ⟨p, vs, h1, h2, h3⟩ := h
    exact ⟨p, vs, h1, e _ _ h2, DtL.keep (TK.of e) h3⟩
  | s xs =>
    obtain ⟨p, vs, h1, h2, h3⟩ := h
    exact ⟨p, vs, h1, e _ _ h2, DtL.keep (TK.of e) h3⟩
  | t n => exact h
  | g R => exact Fst.mono (NL.of e) h
theorem AgL.length : ∀ {vs : List V} {rs : List Rk}, AgL K H vs rs → vs.length = rs.length
  | [], [], _ => rfl
  | _ :: vs, _ :: rs, h => congrArg Nat.succ (AgL.length h.2)
  | [], _ :: _, h => h.elim
  | _ :: _, [], h => h.elim
theorem AgL.data : ∀ {vs : List V} {ds : List PyData}, AgL K H vs (ds.map Rk.d) → DtL K H vs ds
  | [], [], _ => .nil
  | _ :: vs, _ :: ds, h => .cons h.1 (AgL.data h.2)
  | [], _ :: _, h => h.elim
  | _ :: _, [], h => h.elim

/-! ### readings -/
def Sem (K : PySem.W.Frag) (Γ : List Sl) (t : TE) (r : Rk) : Prop :=
  ∀ (H0 : Hp) (σ : L2.St) (H : Hp) (Q : VK), Rp K H0 Γ σ H → (∀ v H', Same H H' → Res K H H' r v → Q v H') → t σ H Q
def SemT (K : PySem.W.Frag) (Γ : List Sl) (t : TT) (b : Bool) : Prop :=
  ∀ (H0 : Hp) (σ : L2.St) (H : Hp) (Q : Bool → Hp → Prop), Rp K H0 Γ σ H → (∀ H', Same H H' → Q b H') → t σ H Q
def SemA (K : PySem.W.Frag) (Γ : List Sl) (t : TA) (rs : List Rk) : Prop :=
  ∀ (H0 : Hp) (σ : L2.St) (H : Hp) (Q : List V → Hp → Prop), Rp K H0 Γ σ H → (∀ vs H', Same H H' → AgL K H' vs rs → Q vs H') → t σ H Q
/-- two-place, call, by values -/
def RvD (K : PySem.W.Frag) (r : R2) (x y z : Rk) : Prop :=
  ∀ (H : Hp) (v w : V) (Q : VK), Ag K H x v → Ag K H y w → (∀ u H', Same H H' → Res K H H' z u → Q u H') → r v w H Q
def CvD (K : PySem.W.Frag) (r : List V → Hp → VK → Prop) (rs : List Rk) (z : Rk) : Prop :=
  ∀ (H : Hp) (vs : List V) (Q : VK), AgL K H vs rs → (∀ u H', Same H H' → Res K H H' z u → Q u H') → r vs H Q
variable {ta tb te : TE} {tr : TA} {t u : TT} {x y z : PyData} {r r1 r2 : Rk} {rs : List Rk}
theorem Sem.cast (h : Sem K Γ te r1) (e : r1 = r2) : Sem K Γ te r2 := e ▸ h
theorem sem_var {i : Nat} (h : Γ[i]? = some (.d x)) : Sem K Γ (tVar i) (.d x) := fun H0 σ H Q rp q => by
  obtain ⟨v, h1, h2⟩ := rp.at_ i _ h (by intro z; cases z)
  exact ⟨v, h1, q v H (Same.refl H) h2⟩
theorem sem_varF {i : Nat} {xs : List PyData} (h : Γ[i]? = some (.f xs)) : Sem K Γ (tVar i) (.s xs) := fun H0 σ H Q rp q => by
  obtain ⟨v, h1, h2⟩ := rp.at_ i _ h (by intro z; cases z)
  exact ⟨v, h1, q v H (Same.refl H) h2⟩
theorem sem_varL {i : Nat} {xs : List PyData} (h : Γ[i]? = some (.l xs)) : Sem K Γ (tVar i) (.s xs) := fun H0 σ H Q rp q => by
  obtain ⟨v, h1, a, vs, h2, h3, h4, _⟩ := rp.at_ i _ h (by intro z; cases z)
  exact ⟨v, h1, q v H (Same.refl H) ⟨a, vs, h2, h3, h4⟩⟩
theorem sem_varG {i : Nat} {R : Hp → V → Prop} (h : Γ[i]? = some (.g R)) : Sem K Γ (tVar i) (.g R) := fun H0 σ H Q rp q => by
  obtain ⟨v, h1, h2⟩ := rp.at_ i _ h (by intro z; cases z)
  exact ⟨v, h1, q v H (Same.refl H) h2⟩
theorem sem_c {v : V} (h : ∀ H, Dt K H v x) : Sem K Γ (tC v) (.d x) := fun _ _ H _ _ q => q v H (Same.refl H) (h H)
theorem sem_int {i : Int} : Sem K Γ (tC (.int i)) (.d (.int i)) := sem_c fun _ => .int i
theorem sem_str {i : Str} : Sem K Γ (tC (.str i)) (.d (.str i)) := sem_c fun _ => .str i
theorem sem_bl {i : Bool} : Sem K Γ (tC (.bl i)) (.d (.bool i)) := sem_c fun _ => .bl i
theorem sem_non : Sem K Γ (tC .non) (.d .none) := sem_c fun _ => .non
theorem sem_ty {n : String} : Sem K Γ (tC (.ty n)) (.t n) := fun _ _ H _ _ q => q _ H (Same.refl H) rfl
/-- a tuple of the written part -/
def KTup (K : PySem.W.Frag) (v : V) (x : PyData) : Prop := ∀ H, Dt K H v x
theorem sem_k {v : V} (h : KTup K v x) : Sem K Γ (tC v) (.d x) := sem_c h
theorem sem_op {o : R2} (ha : Sem K Γ ta r1) (hb : Sem K Γ tb r2) (h : RvD K o r1 r2 r) : Sem K Γ (tOp o ta tb) r := fun H0 σ H Q rp q =>
  ha H0 σ H _ rp fun v H1 e1 a1 => hb H0 σ H1 _ (rp.mono e1) fun w H2 e2 a2 => h H2 v w Q (a1.ag.mono e2) a2.ag fun u H3 e3 a3 => q u H3 ((e1.trans e2).trans e3) (a3.back (e1.trans e2))
theorem sema_nil : SemA K Γ tNil [] := fun _ _ H _ _ q => q [] H (Same.refl H) trivial
theorem sema_cons (ha : Sem K Γ ta r) (h : SemA K Γ tr rs) : SemA K Γ (tCons ta tr) (r :: rs) := fun H0 σ H Q rp q =>
  ha H0 σ H _ rp fun v H1 e1 a1 => h H0 σ H1 _ (rp.mono e1) fun vs H2 e2 a2 => q (v :: vs) H2 (e1.trans e2) ⟨a1.ag.mono e2, a2⟩
theorem sem_cb {o : List V → Hp → VK → Prop} (ha : SemA K Γ tr rs) (h : CvD K o rs r) : Sem K Γ (tCB o tr) r := fun H0 σ H Q rp q =>
  ha H0 σ H _ rp fun vs H1 e1 a1 => h H1 vs Q a1 fun u H2 e2 a2 => q u H2 (e1.trans e2) (a2.back e1)
theorem same_new {p : Addr} {o : HO} (h : H p = none) : Same H (upd H p o) := fun b u e => by
  rw [upd_ne (ne_of_none e h)]
  exact e
theorem sem_tup {ds : List PyData} (ha : SemA K Γ tr (ds.map Rk.d)) (hl : ds.length ≤ 1000) : Sem K Γ (tTup tr) (.d (.tuple ds)) := fun H0 σ H Q rp q =>
  ha H0 σ H _ rp fun vs H1 e1 a1 => by
    have a2 := AgL.data a1
    refine ⟨Nat.le_of_lt (small1000 (by rw [a2.length]; exact hl)), fun p hp => ?_⟩
    exact q _ _ (e1.trans (same_new hp)) (.tup (.inl upd_same) (DtL.keep (TK.of (same_new hp)) a2))
theorem sem_lst {ds : List PyData} (ha : SemA K Γ tr (ds.map Rk.d)) (hl : ds.length ≤ 1000) : Sem K Γ (tLst tr) (.l ds) := fun H0 σ H Q rp q =>
  ha H0 σ H _ rp fun vs H1 e1 a1 => by
    have a2 := AgL.data a1
    refine ⟨Nat.le_of_lt (small1000 (by rw [a2.length]; exact hl)), fun p hp => ?_⟩
    exact q _ _ (e1.trans (same_new hp)) ⟨p, vs, rfl, e1.free hp, upd_same, DtL.keep (TK.of (same_new hp)) a2⟩

/-! ### calls of defs on data -/
def spF (K : PySem.W.Frag) (pre : List Rk → Rk → Prop) : Sp := fun vs H Q _ => ∃ rs r, pre rs r ∧ AgL K H vs rs ∧ ∀ v H', Same H H' → Res K H H' r v → Q v H'
theorem sem_call {pre : List Rk → Rk → Prop} {E : XK} (ha : SemA K Γ tr rs) (h : pre rs r) : Sem K Γ (tCall (spF K pre) [] E tr) r := fun H0 σ H Q rp q =>
  ha H0 σ H _ rp fun vs H1 e1 a1 => ⟨rs, r, h, by rw [List.append_nil]; exact a1, fun v H2 e2 a2 => q v H2 (e1.trans e2) (a2.back e1)⟩

/-! ### operators by values -/
theorem rvd_I0 {g : Int → Int → V} {i j : Int} (h : ∀ H, Dt K H (g i j) z) : RvD K (rI0 g) (.d (.int i)) (.d (.int j)) (.d z) := fun H v w Q a b q =>
  ⟨i, j, Dt.isInt a, Dt.isInt b, q _ H (Same.refl H) (h H)⟩
theorem rvd_I {C : Int → Int → Prop} {g : Int → Int → V} {i j : Int} (hc : C i j) (h : ∀ H, Dt K H (g i j) z) : RvD K (rI C g) (.d (.int i)) (.d (.int j)) (.d z) := fun H v w Q a b q =>
  ⟨i, j, Dt.isInt a, Dt.isInt b, hc, q _ H (Same.refl H) (h H)⟩
theorem rvd_ixT {ds : List PyData} {i : Int} (h : atI ds i = some x) : RvD K (rIxT K) (.d (.tuple ds)) (.d (.int i)) (.d x) := fun H v w Q a b q => by
  obtain ⟨p, xs, e, ht, hl⟩ := Dt.isTup a
  have h2 : (ixN ds.length i).bind (fun j => ds[j]?) = some x := h
  obtain ⟨j, hj, hx⟩ := Option.bind_eq_some_iff.mp h2
  obtain ⟨u, hu, hd⟩ := hl.get hx
  refine ⟨p, xs, i, u, e, Dt.isInt b, ht.sq, ?_, q u H (Same.refl H) hd⟩
  show (ixN xs.length i).bind (fun j => xs[j]?) = some u
  rw [hl.length, hj]
  exact hu
theorem rvd_ixL {ds : List PyData} {i : Int} (h : atI ds i = some x) : RvD K (rIxL K) (.s ds) (.d (.int i)) (.d x) := fun H v w Q a b q => by
  obtain ⟨p, xs, e, ht, hl⟩ := a
  have h2 : (ixN ds.length i).bind (fun j => ds[j]?) = some x := h
  obtain ⟨j, hj, hx⟩ := Option.bind_eq_some_iff.mp h2
  obtain ⟨u, hu, hd⟩ := hl.get hx
  refine ⟨p, xs, i, u, e, Dt.isInt b, SqL.of ht, ?_, q u H (Same.refl H) hd⟩
  show (ixN xs.length i).bind (fun j => xs[j]?) = some u
  rw [hl.length, hj]
  exact hu
theorem rvd_ixL' {ds : List PyData} {i : Int} (h : atI ds i = some x) : RvD K (rIxL K) (.l ds) (.d (.int i)) (.d x) := fun H v w Q a b q => rvd_ixL h H v w Q a b q
theorem rvd_eqD (hx : SeqAt.shaped x = true) (hy : SeqAt.shaped y = true) : RvD K (rEqD K) (.d x) (.d y) (.d (.bool (PyData.eqv x y))) := fun H v w Q a b q =>
  ⟨x, y, Dt.dp a, Dt.dp b, hx, hy, q _ H (Same.refl H) (.bl _)⟩
theorem rvd_neD (hx : SeqAt.shaped x = true) (hy : SeqAt.shaped y = true) : RvD K (rNeD K) (.d x) (.d y) (.d (.bool (!PyData.eqv x y))) := fun H v w Q a b q =>
  ⟨x, y, Dt.dp a, Dt.dp b, hx, hy, q _ H (Same.refl H) (.bl _)⟩
theorem ag_listD {ds : List PyData} {v : V} (a : Ag K H (.s ds) v) : Dp K H v (.list ds) := by
  obtain ⟨p, xs, rfl, ht, hl⟩ := a
  exact .lst (SqL.of ht) (DtL.dp hl)
theorem ag_listD' {ds : List PyData} {v : V} (a : Ag K H (.l ds) v) : Dp K H v (.list ds) := ag_listD (ds := ds) a
/-- list == list -/
theorem rvd_eqL {ds es : List PyData} (hx : SeqAt.shaped (.list ds) = true) (hy : SeqAt.shaped (.list es) = true) : RvD K (rEqD K) (.s ds) (.l es) (.d (.bool (PyData.eqv (.list ds) (.list es)))) := fun H v w Q a b q =>
  ⟨_, _, ag_listD a, ag_listD' b, hx, hy, q _ H (Same.refl H) (.bl _)⟩
theorem rvd_neL {ds es : List PyData} (hx : SeqAt.shaped (.list ds) = true) (hy : SeqAt.shaped (.list es) = true) : RvD K (rNeD K) (.s ds) (.l es) (.d (.bool (!PyData.eqv (.list ds) (.list es)))) := fun H v w Q a b q =>
  ⟨_, _, ag_listD a, ag_listD' b, hx, hy, q _ H (Same.refl H) (.bl _)⟩
theorem rvd_inD {ds : List PyData} (hx : SeqAt.shaped x = true) (hy : SeqAt.shaped (.list ds) = true) : RvD K (rInD K) (.d x) (.s ds) (.d (.bool (ds.any fun z => PyData.eqv z x))) := fun H v w Q a b q =>
  ⟨x, ds, Dt.dp a, ag_listD b, hx, hy, q _ H (Same.refl H) (.bl _)⟩
theorem rvd_inD' {ds : List PyData} (hx : SeqAt.shaped x = true) (hy : SeqAt.shaped (.list ds) = true) : RvD K (rInD K) (.d x) (.l ds) (.d (.bool (ds.any fun z => PyData.eqv z x))) := fun H v w Q a b q =>
  rvd_inD hx hy H v w Q a b q
theorem rvd_niD {ds : List PyData} (hx : SeqAt.shaped x = true) (hy : SeqAt.shaped (.list ds) = true) : RvD K (rNotInD K) (.d x) (.s ds) (.d (.bool (!ds.any fun z => PyData.eqv z x))) := fun H v w Q a b q =>
  ⟨x, ds, Dt.dp a, ag_listD b, hx, hy, q _ H (Same.refl H) (.bl _)⟩
/-- a word in a tuple of words -/
theorem strs_flat {K : PySem.W.Frag} {H : Hp} : ∀ {vs : List V} {ws : List Str}, DtL K H vs (ws.map PyData.str) → vs = ws.map V.str
  | _, [], .nil => rfl
  | _, w :: ws, .cons h t => by
    cases h
    rw [strs_flat t]
    rfl
theorem rvd_inW {w : Str} {ws : List Str} : RvD K (rIn K false) (.d (.str w)) (.d (.tuple (ws.map PyData.str))) (.d (.bool (ws.any fun z => z == w))) := fun H v u Q a b q => by
  obtain ⟨p, xs, e, ht, hl⟩ := Dt.isTup b
  have e1 := Dt.isStr a
  have e2 := strs_flat hl
  subst e1 e2
  refine ⟨p, _, e, .inr ht.sq, rfl, ?_, ?_⟩
  · rw [List.all_map]
    exact List.all_eq_true.mpr fun _ _ => rfl
  · have e3 : inV (V.str w) (ws.map V.str) = ws.any fun z => z == w := by
      unfold inV
      rw [List.any_map]
      rfl
    show Q (.bl (inV (V.str w) (ws.map V.str))) H
    rw [e3]
    exact q _ H (Same.refl H) (.bl _)
theorem rvd_niW {w : Str} {ws : List Str} : RvD K (rIn K true) (.d (.str w)) (.d (.tuple (ws.map PyData.str))) (.d (.bool (!ws.any fun z => z == w))) := fun H v u Q a b q => by
  obtain ⟨p, xs, e, ht, hl⟩ := Dt.isTup b
  have e1 := Dt.isStr a
  have e2 := strs_flat hl
  subst e1 e2
  refine ⟨p, _, e, .inr ht.sq, rfl, ?_, ?_⟩
  · rw [List.all_map]
    exact List.all_eq_true.mpr fun _ _ => rfl
  · have e3 : inV (V.str w) (ws.map V.str) = ws.any fun z => z == w := by
      unfold inV
      rw [List.any_map]
      rfl
    show Q (.bl (!inV (V.str w) (ws.map V.str))) H
    rw [e3]
    exact q _ H (Same.refl H) (.bl _)
/-- == of words, of ints -/
theorem rvd_eqS {i j : Str} : RvD K rEq (.d (.str i)) (.d (.str j)) (.d (.bool (decide (i = j)))) := fun H v w Q a b q => by
  have e1 := Dt.isStr a
  have e2 := Dt.isStr b
  subst e1 e2
  refine ⟨rfl, ?_⟩
  have e3 : decide (V.str i = V.str j) = decide (i = j) := by simp
  rw [e3]
  exact q _ H (Same.refl H) (.bl _)
theorem rvd_eqI {i j : Int} : RvD K rEq (.d (.int i)) (.d (.int j)) (.d (.bool (decide (i = j)))) := fun H v w Q a b q => by
  have e1 := Dt.isInt a
  have e2 := Dt.isInt b
  subst e1 e2
  refine ⟨rfl, ?_⟩
  have e3 : decide (V.int i = V.int j) = decide (i = j) := by simp
  rw [e3]
  exact q _ H (Same.refl H) (.bl _)
theorem rvd_neI {i j : Int} : RvD K rNe (.d (.int i)) (.d (.int j)) (.d (.bool (!decide (i = j)))) := fun H v w Q a b q => by
  have e1 := Dt.isInt a
  have e2 := Dt.isInt b
  subst e1 e2
  refine ⟨rfl, ?_⟩
  have e3 : decide (V.int i = V.int j) = decide (i = j) := by simp
  rw [e3]
  exact q _ H (Same.refl H) (.bl _)
/-- is None -/
def isNoneD : PyData → Bool
  | .none => true
  | _ => false
theorem dt_non {v : V} (a : Dt K H v x) : decide (v = .non) = isNoneD x := by
  cases a <;> first
    | exact decide_eq_true rfl
    | exact decide_eq_false (by intro z; cases z)
theorem rvd_isN : RvD K (fun x y H Q => y = .non ∧ Q (.bl (decide (x = .non))) H) (.d x) (.d .none) (.d (.bool (isNoneD x))) := fun H v w Q a b q =>
  ⟨Dt.isNone b, by rw [dt_non a]; exact q _ H (Same.refl H) (.bl _)⟩
theorem rvd_isnotN : RvD K (fun x y H Q => y = .non ∧ Q (.bl (!decide (x = .non))) H) (.d x) (.d .none) (.d (.bool (!isNoneD x))) := fun H v w Q a b q =>
  ⟨Dt.isNone b, by rw [dt_non a]; exact q _ H (Same.refl H) (.bl _)⟩
/-- tuple + tuple -/
theorem rvd_catA {ds es : List PyData} (hl : ds.length + es.length ≤ 1000) : RvD K (rCatA K) (.d (.tuple ds)) (.d (.tuple es)) (.d (.tuple (ds ++ es))) := fun H v w Q a b q => by
  obtain ⟨p, xs, e1, ht1, hl1⟩ := Dt.isTup a
  obtain ⟨p2, ys, e2, ht2, hl2⟩ := Dt.isTup b
  refine ⟨p, p2, xs, ys, e1, e2, ht1.sq, ht2.sq, Nat.le_of_lt (small1000 (by rw [hl1.length, hl2.length]; exact hl)), ?_, ?_, ?_⟩
  · intro ex
    subst ex
    cases hl1
    exact q _ H (Same.refl H) (.tup ht2 hl2)
  · intro _ ey
    subst ey
    cases hl2
    rw [List.append_nil] at q
    exact q _ H (Same.refl H) (.tup ht1 hl1)
  · intro _ _ c hc
    exact q _ _ (same_new hc) (.tup (.inl upd_same) (DtL.keep (TK.of (same_new hc)) (hl1.append hl2)))
/-- list + list -/
theorem rvd_cat {r1 r2 : Rk} {ds es : List PyData} (h1 : r1 = .l ds ∨ r1 = .s ds) (h2 : r2 = .l es ∨ r2 = .s es) (hl : ds.length + es.length ≤ 100000) : RvD K rCat r1 r2 (.l (ds ++ es)) := fun H v w Q a b q => by
  have a' : ∃ p vs, v = .ref p ∧ H p = some (.lst vs) ∧ DtL K H vs ds := by rcases h1 with rfl | rfl <;> exact a
  have b' : ∃ p vs, w = .ref p ∧ H p = some (.lst vs) ∧ DtL K H vs es := by rcases h2 with rfl | rfl <;> exact b
  obtain ⟨p, xs, e1, ht1, hl1⟩ := a'
  obtain ⟨p2, ys, e2, ht2, hl2⟩ := b'
  refine ⟨p, p2, xs, ys, e1, e2, ht1, ht2, by rw [hl1.length, hl2.length]; exact Nat.le_trans hl (by decide), fun c hc => ?_⟩
  exact q _ _ (same_new hc) ⟨c, _, rfl, hc, upd_same, DtL.keep (TK.of (same_new hc)) (hl1.append hl2)⟩
end
end RP
end
section
set_option maxHeartbeats 2000000
namespace RP
open PySem PySem.Spec PyProof.Rows L2

section
variable {K : PySem.W.Frag} {H0 H H' H'' : Hp} {Γ Γ1 Γ2 : List Sl} {σ : L2.St} {ta tb te ti : TE} {tr : TA} {t u : TT} {x y z : PyData} {r r1 r2 : Rk} {rs : List Rk}
/-! ### slices -/
def SemO (K : PySem.W.Frag) (Γ : List Sl) (t : TO) (o : Option Int) : Prop :=
  ∀ (H0 : Hp) (σ : L2.St) (H : Hp) (Q : Option Int → Hp → Prop), Rp K H0 Γ σ H → (∀ H', Same H H' → Q o H') → t σ H Q
theorem semo_none : SemO K Γ tNoPart none := fun _ _ H _ _ q => q H (Same.refl H)
theorem semo_some {i : Int} (h : Sem K Γ te (.d (.int i))) : SemO K Γ (tPart te) (some i) := fun H0 σ H Q rp q =>
  h H0 σ H _ rp fun v H1 e1 a1 => ⟨i, Dt.isInt a1, q H1 e1⟩
def cutD (ds : List PyData) (lo hi : Option Int) : List PyData := (ds.drop (HT.sIx ds.length 0 lo)).take (HT.sIx ds.length ds.length hi - HT.sIx ds.length 0 lo)
theorem sem_slT {ds es : List PyData} {tl th : TO} {lo hi : Option Int} (h : Sem K Γ te (.d (.tuple ds))) (hl : SemO K Γ tl lo) (hh : SemO K Γ th hi) (e : cutD ds lo hi = es) : Sem K Γ (tSl (rSlA K) te tl th) (.d (.tuple es)) := fun H0 σ H Q rp q =>
  h H0 σ H _ rp fun v H1 e1 a1 => hl H0 σ H1 _ (rp.mono e1) fun H2 e2 => hh H0 σ H2 _ (rp.mono (e1.trans e2)) fun H3 e3 => by
    obtain ⟨p, xs, ev, ht, hd⟩ := Dt.isTup a1
    have ht3 := (ht.keep (TK.of e2)).keep (TK.of e3)
    have hd3 := DtL.keep (TK.of e3) (DtL.keep (TK.of e2) hd)
    have s3 := (e1.trans e2).trans e3
    subst e
    refine ⟨p, xs, ev, ht3.sq, fun hw => ?_, fun hw c hc => ?_⟩
    · rw [hd.length] at hw
      have e4 : cutD ds lo hi = ds := by
        unfold cutD
        rw [hw.1, hw.2, List.drop_zero, Nat.sub_zero, List.take_length]
      rw [e4] at q
      exact q _ H3 s3 (.tup ht3 hd3)
    · refine q _ _ (s3.trans (same_new hc)) (.tup (.inl upd_same) ?_)
      have hk := DtL.keep (TK.of (same_new (o := .tup (cutV xs lo hi)) hc)) hd3
      generalize upd H3 c (.tup (cutV xs lo hi)) = G at hk ⊢
      unfold cutV cutD
      rw [hd.length]
      exact (hk.drop _).take _
theorem cut_tail {x : PyData} {ds : List PyData} : cutD (x :: ds) (some 1) none = ds := by
  unfold cutD
  rw [show HT.sIx (x :: ds).length 0 (some 1) = min 1 (x :: ds).length from HT.sIx_nat _ 0 1, HT.sIx_none]
  rw [show min 1 (x :: ds).length = 1 by rw [List.length_cons]; omega]
  show (List.take ((x :: ds).length - 1) ds) = ds
  rw [List.length_cons, Nat.add_sub_cancel]
  exact List.take_length
theorem cut_from {ds : List PyData} {i : Nat} (h : i ≤ ds.length) : cutD ds (some (i : Int)) none = ds.drop i := by
  unfold cutD
  rw [HT.sIx_nat, HT.sIx_none, Nat.min_eq_left h]
  rw [List.take_of_length_le]
  rw [List.length_drop]
  exact Nat.le_refl _
theorem cut_to {ds : List PyData} {i : Nat} (h : i ≤ ds.length) : cutD ds none (some (i : Int)) = ds.take i := by
  unfold cutD
  rw [HT.sIx_nat, HT.sIx_none, Nat.min_eq_left h, List.drop_zero, Nat.sub_zero]

/-! ### tests, conditional expressions -/
theorem semt_B {b : Bool} (h : Sem K Γ te (.d (.bool b))) : SemT K Γ (tB te) b := fun H0 σ H Q rp q =>
  h H0 σ H _ rp fun v H1 e1 a1 => ⟨b, Dt.isBool a1, q H1 e1⟩
theorem semt_T {b : Bool} (h : Sem K Γ te (.d (.bool b))) : SemT K Γ (tTest te) b := fun H0 σ H Q rp q =>
  h H0 σ H _ rp fun v H1 e1 a1 => ⟨b, Dt.isBool a1, q H1 e1⟩
theorem semt_not {b : Bool} (h : SemT K Γ t b) : SemT K Γ (tNot t) (!b) := fun H0 σ H Q rp q => h H0 σ H _ rp fun H1 e1 => q H1 e1
theorem semt_and {a b : Bool} (h : SemT K Γ t a) (h2 : a = true → SemT K Γ u b) : SemT K Γ (tAnd t u) (a && b) := fun H0 σ H Q rp q =>
  h H0 σ H _ rp fun H1 e1 => by
    cases a with
    | true => exact iteT (h2 rfl H0 σ H1 Q (rp.mono e1) fun H2 e2 => q H2 (e1.trans e2))
    | false => exact iteF (q H1 e1)
theorem semt_or {a b : Bool} (h : SemT K Γ t a) (h2 : a = false → SemT K Γ u b) : SemT K Γ (tOr t u) (a || b) := fun H0 σ H Q rp q =>
  h H0 σ H _ rp fun H1 e1 => by
    cases a with
    | true => exact iteT (q H1 e1)
    | false => exact iteF (h2 rfl H0 σ H1 Q (rp.mono e1) fun H2 e2 => q H2 (e1.trans e2))
theorem sem_if {b : Bool} (h : SemT K Γ t b) (h1 : b = true → Sem K Γ ta r) (h2 : b = false → Sem K Γ tb r) : Sem K Γ (tIf t ta tb) r := fun H0 σ H Q rp q =>
  h H0 σ H _ rp fun H1 e1 => by
    cases b with
    | true => exact iteT (h1 rfl H0 σ H1 Q (rp.mono e1) fun v H2 e2 a => q v H2 (e1.trans e2) (a.back e1))
    | false => exact iteF (h2 rfl H0 σ H1 Q (rp.mono e1) fun v H2 e2 a => q v H2 (e1.trans e2) (a.back e1))
theorem sem_and {a b : Bool} (h : Sem K Γ ta (.d (.bool a))) (h2 : a = true → Sem K Γ tb (.d (.bool b))) : Sem K Γ (tAndV ta tb) (.d (.bool (a && b))) := fun H0 σ H Q rp q =>
  h H0 σ H _ rp fun v H1 e1 a1 => by
    refine ⟨a, Dt.isBool a1, ?_⟩
    cases a with
    | true => exact iteT (h2 rfl H0 σ H1 Q (rp.mono e1) fun v H2 e2 a => q v H2 (e1.trans e2) a)
    | false => exact iteF (q _ H1 e1 (.bl _))
theorem sem_or {a b : Bool} (h : Sem K Γ ta (.d (.bool a))) (h2 : a = false → Sem K Γ tb (.d (.bool b))) : Sem K Γ (tOrV ta tb) (.d (.bool (a || b))) := fun H0 σ H Q rp q =>
  h H0 σ H _ rp fun v H1 e1 a1 => by
    refine ⟨a, Dt.isBool a1, ?_⟩
    cases a with
    | true => exact iteT (q _ H1 e1 (.bl _))
    | false => exact iteF (h2 rfl H0 σ H1 Q (rp.mono e1) fun v H2 e2 a => q v H2 (e1.trans e2) a)
theorem sem_not {a : Bool} (h : Sem K Γ ta (.d (.bool a))) : Sem K Γ (tNotV ta) (.d (.bool (!a))) := fun H0 σ H Q rp q =>
  h H0 σ H _ rp fun v H1 e1 a1 => ⟨a, Dt.isBool a1, q _ H1 e1 (.bl _)⟩
/-- a <= b <= c -/
theorem sem_chain {o o' : R2} {tc : TE} {a b : Bool} {s : Rk} (h1 : Sem K Γ ta r) (h2 : Sem K Γ tb r1) (h3 : Sem K Γ tc s) (o1 : RvD K o r r1 (.d (.bool a))) (o2 : RvD K o' r1 s (.d (.bool b))) : Sem K Γ (tChain o o' ta tb tc) (.d (.bool (a && b))) := fun H0 σ H Q rp q =>
  h1 H0 σ H _ rp fun v H1 e1 a1 => h2 H0 σ H1 _ (rp.mono e1) fun w H2 e2 a2 => o1 H2 v w _ (a1.ag.mono e2) a2.ag fun k H3 e3 a3 => by
    refine ⟨a, Dt.isBool a3, ?_⟩
    have s3 := (e1.trans e2).trans e3
    cases a with
    | true =>
      exact iteT (h3 H0 σ H3 _ (rp.mono s3) fun w2 H4 e4 a4 => o2 H4 w w2 Q (a2.ag.mono (e3.trans e4)) a4.ag fun k2 H5 e5 a5 => q k2 H5 ((s3.trans e4).trans e5) a5)
    | false => exact iteF (q _ H3 s3 (.bl _))

/-! ### blocks -/
inductive Oc where
  | nx (Γ : List Sl)
  | rt (r : Rk)
  | ct (Γ : List Sl)
def Post (K : PySem.W.Frag) (H0 : Hp) (D : Ends) : Oc → Prop
  | .nx Γ => ∀ σ H, Rp K H0 Γ σ H → D.nx σ H
  | .rt r => ∀ v H, Same H0 H → Res K H0 H r v → D.rt v H
  | .ct Γ => ∀ σ H, Rp K H0 Γ σ H → D.ct σ H
def SemB (K : PySem.W.Frag) (Γ : List Sl) (t : TS) (o : Oc) : Prop :=
  ∀ (H0 : Hp) (σ : L2.St) (H : Hp) (D : Ends), Rp K H0 Γ σ H → Post K H0 D o → t D σ H
variable {tS uS : TS} {o : Oc}
theorem SemB.cast {o' : Oc} (h : SemB K Γ tS o) (e : o = o') : SemB K Γ tS o' := e ▸ h
theorem semb_next : SemB K Γ tNext (.nx Γ) := fun _ σ H _ rp q => q σ H rp
theorem semb_seq (h : SemB K Γ tS (.nx Γ1)) (h2 : SemB K Γ1 uS o) : SemB K Γ (tSeq tS uS) o := fun H0 σ H D rp q =>
  h H0 σ H _ rp fun σ' H' rp' => h2 H0 σ' H' D rp' q
theorem semb_seqR (h : SemB K Γ tS (.rt r)) : SemB K Γ (tSeq tS uS) (.rt r) := fun H0 σ H D rp q => h H0 σ H _ rp q
theorem semb_seqC (h : SemB K Γ tS (.ct Γ1)) : SemB K Γ (tSeq tS uS) (.ct Γ1) := fun H0 σ H D rp q => h H0 σ H _ rp q
theorem semb_if {b : Bool} (h : SemT K Γ t b) (h1 : b = true → SemB K Γ tS o) (h2 : b = false → SemB K Γ uS o) : SemB K Γ (tIfS t tS uS) o := fun H0 σ H D rp q =>
  h H0 σ H _ rp fun H1 e1 => by
    cases b with
    | true => exact iteT (h1 rfl H0 σ H1 D (rp.mono e1) q)
    | false => exact iteF (h2 rfl H0 σ H1 D (rp.mono e1) q)
theorem semb_ret (h : Sem K Γ te r) : SemB K Γ (tRet te) (.rt r) := fun H0 σ H D rp q =>
  h H0 σ H _ rp fun v H1 e1 a => q v H1 (rp.same.trans e1) (a.back rp.same)
theorem semb_retL {i : Nat} {xs : List PyData} (h : Γ[i]? = some (.l xs)) : SemB K Γ (tRet (tVar i)) (.rt (.l xs)) := fun H0 σ H D rp q => by
  obtain ⟨v, h1, a, vs, h2, h3, h4, h5⟩ := rp.at_ i _ h (by intro z; cases z)
  exact ⟨v, h1, q v H rp.same ⟨a, vs, h2, h5, h3, h4⟩⟩
theorem semb_retN : SemB K Γ tRetN (.rt (.d .none)) := fun H0 σ H D rp q => q .non H rp.same .non
theorem semb_expr (h : Sem K Γ te r) : SemB K Γ (tDrop te) (.nx Γ) := fun H0 σ H D rp q =>
  h H0 σ H _ rp fun v H1 e1 a => q σ H1 (rp.mono e1)
/-- what stands in a list's slot is tracked -/
theorem Rp.lists (rp : Rp K H0 Γ σ H) {j : Nat} {s : Sl} (h : Γ[j]? = some s) (hl : s.isL = true) : ∃ a vs, σ[j]? = some (some (.ref a)) ∧ H a = some (.lst vs) := by
  cases s with
  | un => cases hl
  | d x => cases hl
  | g R => cases hl
  | l xs =>
    obtain ⟨v, h1, a, vs, h2, h3, _⟩ := rp.at_ j _ h (by intro z; cases z)
    exact ⟨a, vs, by rw [h1, h2], h3⟩
  | f xs =>
    obtain ⟨v, h1, a, vs, h2, h3, _⟩ := rp.at_ j _ h (by intro z; cases z)
    exact ⟨a, vs, by rw [h1, h2], h3⟩
theorem own_isL {s : Sl} (h : s.isOwn = true) : s.isL = true := by
  cases s <;> first | rfl | cases h
/-- a value goes to a slot -/
theorem Rp.store (rp : Rp K H0 Γ σ H) (e : Same H H') {v : V} (a : Res K H H' r v) (i : Nat) : Rp K H0 (Γ.set i r.sl) (σ.set i (some v)) H' := by
  have rp' := rp.mono e
  cases r with
  | d x => exact rp'.set (s := .d x) a (fun z => by cases z) (fun z => by cases z)
  | s xs => exact rp'.set (s := .un) trivial (fun z => by cases z) (fun z => by cases z)
  | t n => exact rp'.set (s := .un) trivial (fun z => by cases z) (fun z => by cases z)
  | g R => exact rp'.set (s := .g R) a (fun z => by cases z) (fun z => by cases z)
  | l xs =>
    obtain ⟨p, vs, rfl, h2, h3, h4⟩ := a
    have key : ∀ (j : Nat) (u : Sl), Γ[j]? = some u → u.isL = true → σ[j]? ≠ some (some (.ref p)) := fun j u hj hu z => by
      obtain ⟨b, ws, h5, h6⟩ := rp.lists hj hu
      rw [z] at h5
      cases h5
      rw [h2] at h6
      cases h6
    exact rp'.set (s := .l xs) ⟨p, vs, rfl, h3, h4, rp.same.free h2⟩ (fun _ j u _ hj hu => key j u hj hu) (fun _ j u _ hj hu => key j u hj (own_isL hu))
theorem semb_set {i : Nat} (h : Sem K Γ te r) : SemB K Γ (tAsg te (gName i)) (.nx (Γ.set i r.sl)) := fun H0 σ H D rp q =>
  h H0 σ H _ rp fun v H1 e1 a => q _ H1 (rp.store e1 a i)
/-- targets: an item that is data -/
def Dif (js : List Nat) (σ σ' : L2.St) : Prop := σ'.length = σ.length ∧ ∀ i, i ∉ js → σ'[i]? = σ[i]?
def SemG (K : PySem.W.Frag) (g : TG) (x : PyData) (Γ Γ' : List Sl) (js : List Nat) : Prop :=
  ∀ (H0 : Hp) (σ : L2.St) (H : Hp) (v : V) (Q : L2.St → Hp → Prop), Rp K H0 Γ σ H → Dt K H v x → (∀ σ', Rp K H0 Γ' σ' H → Dif js σ σ' → Q σ' H) → g v σ H Q
def SemGs (K : PySem.W.Frag) (g : TGs) (xs : List PyData) (Γ Γ' : List Sl) (js : List Nat) : Prop :=
  ∀ (H0 : Hp) (σ : L2.St) (H : Hp) (vs : List V) (Q : L2.St → Hp → Prop), Rp K H0 Γ σ H → DtL K H vs xs → (∀ σ', Rp K H0 Γ' σ' H → Dif js σ σ' → Q σ' H) → g vs σ H Q
theorem semg_name {i : Nat} : SemG K (gName i) x Γ (Γ.set i (.d x)) [i] := fun H0 σ H v Q rp a q =>
  q _ (rp.store (r := .d x) (Same.refl H) a i) ⟨List.length_set, fun j hj => by
    rw [List.getElem?_set_ne (fun e => hj (by rw [e]; exact List.mem_singleton_self _))]⟩
theorem semgs_nil : SemGs K gNil [] Γ Γ [] := fun H0 σ H vs Q rp a q => by
  cases a
  exact ⟨rfl, q σ rp ⟨rfl, fun _ _ => rfl⟩⟩
theorem semgs_cons {g : TG} {gs : TGs} {xs : List PyData} {js ks : List Nat} (h : SemG K g x Γ Γ1 js) (h2 : SemGs K gs xs Γ1 Γ2 ks) : SemGs K (gCons g gs) (x :: xs) Γ Γ2 (js ++ ks) := fun H0 σ H vs Q rp a q => by
  cases a with
  | @cons v ws _ _ a1 a2 => exact ⟨v, ws, rfl, h H0 σ H v _ rp a1 fun σ' rp' d1 => h2 H0 σ' H ws Q rp' a2 fun σ2 rp2 d2 => q σ2 rp2 ⟨d2.1.trans d1.1, fun i hi => by
      rw [List.mem_append] at hi
      rw [d2.2 i (fun z => hi (.inr z)), d1.2 i (fun z => hi (.inl z))]⟩⟩
theorem semg_tup {n : Nat} {gs : TGs} {xs : List PyData} {js : List Nat} (hn : xs.length = n) (h : SemGs K gs xs Γ Γ1 js) : SemG K (gTup K n gs) (.tuple xs) Γ Γ1 js := fun H0 σ H v Q rp a q => by
  obtain ⟨p, vs, e, ht, hl⟩ := Dt.isTup a
  exact ⟨p, vs, e, ht.sq, by rw [hl.length, hn], h H0 σ H vs Q rp hl q⟩
theorem semb_asg {g : TG} {js : List Nat} (h : Sem K Γ te (.d x)) (hg : SemG K g x Γ Γ1 js) : SemB K Γ (tAsg te g) (.nx Γ1) := fun H0 σ H D rp q =>
  h H0 σ H _ rp fun v H1 e1 a => hg H0 σ H1 v _ (rp.mono e1) a fun σ' rp' _ => q σ' H1 rp'
/-- a list in a slot changes -/
theorem Rp.change (rp : Rp K H0 Γ σ H) {i : Nat} {xs ys : List PyData} {a : Addr} {vs ws : List V} (hi : Γ[i]? = some (.l xs)) (hs : σ[i]? = some (some (.ref a))) (ha : H a = some (.lst vs)) (hy : DtL K H ws ys) : Rp K H0 (Γ.set i (.l ys)) σ (upd H a (.lst ws)) := by
  obtain ⟨v, h1, b, us, h2, h3, h4, h5⟩ := rp.at_ i _ hi (by intro z; cases z)
  rw [h1, h2] at hs
  cases hs
  have k : TK H (upd H a (.lst ws)) := TK.upd (fun zs z => by rw [ha] at z; cases z)
  refine ⟨fun c o e => ?_, by rw [List.length_set]; exact rp.len, fun j s hj n => ?_, fun j m s u ne hj hm ho hl => ?_⟩
  · rw [upd_ne (by rintro rfl; rw [h5] at e; cases e)]
    exact rp.same c o e
  · rw [getElem?_set'] at hj
    by_cases e : i = j
    · subst e
      rw [if_pos rfl] at hj
      by_cases hb : i < Γ.length
      · rw [if_pos hb] at hj
        cases hj
        exact ⟨_, by rw [h1, h2], a, ws, rfl, upd_same, DtL.keep k hy, h5⟩
      · rw [if_neg hb] at hj
        cases hj
    · rw [if_neg e] at hj
      obtain ⟨w, h6, h7⟩ := rp.at_ j s hj n
      refine ⟨w, h6, ?_⟩
      cases s with
      | un => trivial
      | d x => exact Dt.keep k h7
      | g R => exact Fst.mono (NL.upd ha) h7
      | l zs =>
        obtain ⟨c, us2, h8, h9, h10, h11⟩ := h7
        have nc : c ≠ a := fun z => rp.dis i j _ _ e hi hj rfl rfl (by rw [h1, h2, h6, h8, z])
        exact ⟨c, us2, h8, by rw [upd_ne nc]; exact h9, DtL.keep k h10, h11⟩
      | f zs =>
        obtain ⟨c, us2, h8, h9, h10⟩ := h7
        have nc : c ≠ a := fun z => rp.dis i j _ _ e hi hj rfl rfl (by rw [h1, h2, h6, h8, z])
        exact ⟨c, us2, h8, by rw [upd_ne nc]; exact h9, DtL.keep k h10⟩
  · have old : ∀ {n : Nat} {w : Sl}, (Γ.set i (.l ys))[n]? = some w → ∃ w', Γ[n]? = some w' ∧ w'.isOwn = w.isOwn ∧ w'.isL = w.isL := fun {n w} hn => by
      rw [getElem?_set'] at hn
      by_cases e : i = n
      · subst e
        rw [if_pos rfl] at hn
        by_cases hb : i < Γ.length
        · rw [if_pos hb] at hn
          cases hn
          exact ⟨_, hi, rfl, rfl⟩
        · rw [if_neg hb] at hn
          cases hn
      · rw [if_neg e] at hn
        exact ⟨w, hn, rfl, rfl⟩
    obtain ⟨s', q1, q2, q3⟩ := old hj
    obtain ⟨u', q4, q5, q6⟩ := old hm
    exact rp.dis j m s' u' ne q1 q4 (by rw [q2]; exact ho) (by rw [q6]; exact hl)
theorem Rp.ownAt (rp : Rp K H0 Γ σ H) {i : Nat} {xs : List PyData} (hi : Γ[i]? = some (.l xs)) : ∃ a vs, σ[i]? = some (some (.ref a)) ∧ H a = some (.lst vs) ∧ DtL K H vs xs ∧ H0 a = none := by
  obtain ⟨v, h1, a, vs, h2, h3, h4, h5⟩ := rp.at_ i _ hi (by intro z; cases z)
  exact ⟨a, vs, by rw [h1, h2], h3, h4, h5⟩
/-- xs.append(e) -/
theorem semb_append {i : Nat} {xs : List PyData} (hi : Γ[i]? = some (.l xs)) (h : Sem K Γ te (.d x)) (hl : xs.length ≤ 100000) : SemB K Γ (tDrop (tBM K "list" rAppend (tVar i) (tCons te tNil))) (.nx (Γ.set i (.l (xs ++ [x])))) := fun H0 σ H D rp q => by
  obtain ⟨a, vs, h1, h2, h3, h4⟩ := rp.ownAt hi
  refine ⟨_, h1, .inl ⟨rfl, vs, SqL.of h2⟩, h H0 σ H _ rp fun v H1 e1 a1 => ?_⟩
  refine ⟨a, vs, v, rfl, rfl, e1 _ _ h2, Nat.lt_of_le_of_lt (by rw [h3.length]; exact hl) (by decide), ?_⟩
  exact q σ _ ((rp.mono e1).change hi h1 (e1 _ _ h2) ((DtL.keep (TK.of e1) h3).append (.cons a1 .nil)))
/-- xs.extend(a list) -/
theorem semb_extend {i : Nat} {xs ys : List PyData} (hi : Γ[i]? = some (.l xs)) (h : Sem K Γ te (.l ys)) (hl : xs.length + ys.length ≤ 100000) : SemB K Γ (tDrop (tBM K "list" rExtend (tVar i) (tCons te tNil))) (.nx (Γ.set i (.l (xs ++ ys)))) := fun H0 σ H D rp q => by
  obtain ⟨a, vs, h1, h2, h3, h4⟩ := rp.ownAt hi
  refine ⟨_, h1, .inl ⟨rfl, vs, SqL.of h2⟩, h H0 σ H _ rp fun v H1 e1 a1 => ?_⟩
  obtain ⟨b, ws, rfl, h5, h6, h7⟩ := a1
  refine ⟨a, b, vs, ws, rfl, rfl, e1 _ _ h2, h6, Nat.le_trans (by rw [h3.length, h7.length]; exact hl) (by decide), ?_⟩
  exact q σ _ ((rp.mono e1).change hi h1 (e1 _ _ h2) ((DtL.keep (TK.of e1) h3).append h7))
/-- xs[k] = e -/
theorem semb_setItem {i k : Nat} {xs : List PyData} (hi : Γ[i]? = some (.l xs)) (hk : Sem K Γ ti (.d (.int (k : Int)))) (h : Sem K Γ te (.d x)) (hl : k < xs.length) : SemB K Γ (tAsg te (gSub (tVar i) ti rSetL)) (.nx (Γ.set i (.l (xs.set k x)))) := fun H0 σ H D rp q =>
  h H0 σ H _ rp fun v H1 e1 a1 => by
    obtain ⟨a, vs, h1, h2, h3, h4⟩ := (rp.mono e1).ownAt hi
    refine ⟨_, h1, hk H0 σ H1 _ (rp.mono e1) fun w H2 e2 a2 => ?_⟩
    refine ⟨a, vs, (k : Int), k, rfl, Dt.isInt a2, e2 _ _ h2, ?_, ?_⟩
    · unfold ixN
      rw [if_pos (by omega), if_pos (by rw [h3.length]; omega), Int.toNat_natCast]
    · exact q σ _ ((rp.mono (e1.trans e2)).change hi h1 (e2 _ _ h2) (DtL.set (Dt.keep (TK.of e2) a1) k (DtL.keep (TK.of e2) h3)))
/-- xs[k], by a place from the left -/
def rIxN (K : PySem.W.Frag) : R2 := fun x y H Q => ∃ (p : Addr) (xs : List V) (k : Nat) (v : V), x = .ref p ∧ y = .int (k : Int) ∧ SqL K H p xs ∧ xs[k]? = some v ∧ Q v H
/-- xs[k] += e, numbers -/
theorem semb_augItem {i k : Nat} {ns : List Int} {n m : Int} (hi : Γ[i]? = some (.l (ns.map PyData.int))) (hk : Sem K Γ ti (.d (.int (k : Int)))) (h : Sem K Γ te (.d (.int m))) (hn : ns[k]? = some n) :
    SemB K Γ (tAugS (tVar i) ti te (rIxN K) (ipI fun i j => i + j) rSetL) (.nx (Γ.set i (.l ((ns.set k (n + m)).map PyData.int)))) := fun H0 σ H D rp q => by
  obtain ⟨a, vs, h1, h2, h3, h4⟩ := rp.ownAt hi
  have hv := h3.ints
  subst hv
  have hkl : k < ns.length := (List.getElem?_eq_some_iff.mp hn).1
  have hix : ixN (ns.map V.int).length (k : Int) = some k := by
    unfold ixN
    rw [if_pos (by omega), if_pos (by rw [List.length_map]; omega), Int.toNat_natCast]
  refine ⟨_, h1, hk H0 σ H _ rp fun w H1 e1 a1 => ?_⟩
  refine ⟨a, ns.map V.int, k, .int n, rfl, Dt.isInt a1, SqL.of (e1 _ _ h2), ?_, h H0 σ H1 _ (rp.mono e1) fun u H2 e2 a2 => ?_⟩
  · rw [List.getElem?_map, hn]
    rfl
  · refine ⟨n, m, rfl, Dt.isInt a2, a, ns.map V.int, (k : Int), k, rfl, Dt.isInt a1, e2 _ _ (e1 _ _ h2), hix, ?_⟩
    have e3 : (ns.map V.int).set k (.int (n + m)) = (ns.set k (n + m)).map V.int := by rw [List.map_set]
    rw [e3]
    exact q σ _ ((rp.mono (e1.trans e2)).change hi h1 (e2 _ _ (e1 _ _ h2)) (DtL.of_ints _))
/-- x += e, numbers -/
theorem semb_aug {i : Nat} {n m : Int} {f : Int → Int → Int} (hi : Γ[i]? = some (.d (.int n))) (h : Sem K Γ te (.d (.int m))) : SemB K Γ (tAug i te (ipI f)) (.nx (Γ.set i (.d (.int (f n m))))) := fun H0 σ H D rp q => by
  obtain ⟨v, h1, h2⟩ := rp.at_ i _ hi (by intro z; cases z)
  refine ⟨v, h1, h H0 σ H _ rp fun w H1 e1 a1 => ⟨n, m, Dt.isInt h2, Dt.isInt a1, ?_⟩⟩
  exact q _ H1 (rp.store (r := .d (.int (f n m))) e1 (.int _) i)
/-- a, b = e, f: lists or data -/
theorem semb_par {i j : Nat} {r s : Rk} (ha : Sem K Γ ta r) (hb : Sem K Γ tb s) (hij : i ≠ j) : SemB K Γ (tPar i j (tCons ta (tCons tb tNil))) (.nx ((Γ.set i r.sl).set j s.sl)) := fun H0 σ H D rp q =>
  ha H0 σ H _ rp fun v H1 e1 a1 => hb H0 σ H1 _ (rp.mono e1) fun w H2 e2 a2 => ⟨v, w, rfl, by
    have rp1 := rp.store e1 a1 i
    have ok : Res K H1 H2 s w := a2
    exact q _ H2 (rp1.store e2 ok j)⟩
end
end RP
end
section
set_option maxHeartbeats 2000000
namespace RP
open PySem PySem.Spec PyProof.Rows L2

section
variable {K : PySem.W.Frag} {H0 H H' H'' : Hp} {Γ Γ1 Γ2 : List Sl} {σ : L2.St} {ta tb te ti : TE} {tr : TA} {t u : TT} {x y z : PyData} {r r1 r2 : Rk} {rs : List Rk} {tS uS : TS} {o : Oc}
/-! ### what is not a frame's own list -/
def OwnAt (Γ : List Sl) (σ : L2.St) (b : Addr) : Prop := ∃ (i : Nat) (ys : List PyData), Γ[i]? = some (.l ys) ∧ σ[i]? = some (some (.ref b))
open Classical in
noncomputable def strip (Γ : List Sl) (σ : L2.St) (H : Hp) : Hp := fun b => if OwnAt Γ σ b then none else H b
theorem strip_same : Same (strip Γ σ H) H := fun b o e => by
  unfold strip at e
  split at e
  · cases e
  · exact e
theorem strip_some {b : Addr} {o : HO} (h : H b = some o) (n : ¬ OwnAt Γ σ b) : strip Γ σ H b = some o := by
  unfold strip
  rw [if_neg n]
  exact h
theorem strip_own {b : Addr} (h : OwnAt Γ σ b) : strip Γ σ H b = none := by
  unfold strip
  rw [if_pos h]
theorem Rp.noOwn (rp : Rp K H0 Γ σ H) {b : Addr} {o : HO} (h : H0 b = some o) : ¬ OwnAt Γ σ b := fun ⟨i, ys, h1, h2⟩ => by
  obtain ⟨a, vs, h3, _, _, h4⟩ := rp.ownAt h1
  rw [h2] at h3
  cases h3
  rw [h4] at h
  cases h
/-- a new list's address is no own one -/
theorem Rp.newOwn (rp : Rp K H0 Γ σ H) {b : Addr} (h : H b = none) : ¬ OwnAt Γ σ b := fun ⟨i, ys, h1, h2⟩ => by
  obtain ⟨a, vs, h3, h4, _, _⟩ := rp.ownAt h1
  rw [h2] at h3
  cases h3
  rw [h4] at h
  cases h
theorem Rp.tupOwn (rp : Rp K H0 Γ σ H) {b : Addr} {xs : List V} (h : H b = some (.tup xs)) : ¬ OwnAt Γ σ b := fun ⟨i, ys, h1, h2⟩ => by
  obtain ⟨a, vs, h3, h4, _, _⟩ := rp.ownAt h1
  rw [h2] at h3
  cases h3
  rw [h4] at h
  cases h
theorem Rp.stripped (rp : Rp K H0 Γ σ H) : Rp K (strip Γ σ H) Γ σ H where
  same := strip_same
  len := rp.len
  at_ := fun i s h n => by
    obtain ⟨v, h1, h2⟩ := rp.at_ i s h n
    refine ⟨v, h1, ?_⟩
    cases s with
    | un => trivial
    | d x => exact h2
    | g R => exact h2
    | f xs => exact h2
    | l xs =>
      obtain ⟨a, vs, rfl, h3, h4, _⟩ := h2
      exact ⟨a, vs, rfl, h3, h4, strip_own ⟨i, xs, h, h1⟩⟩
  dis := rp.dis
theorem Rp.lift {S : Hp} (e : Same H0 S) (rp : Rp K S Γ σ H) : Rp K H0 Γ σ H where
  same := e.trans rp.same
  len := rp.len
  at_ := fun i s h n => by
    obtain ⟨v, h1, h2⟩ := rp.at_ i s h n
    refine ⟨v, h1, ?_⟩
    cases s with
    | un => trivial
    | d x => exact h2
    | g R => exact h2
    | f xs => exact h2
    | l xs =>
      obtain ⟨a, vs, h3, h4, h5, h6⟩ := h2
      exact ⟨a, vs, h3, h4, h5, e.free h6⟩
  dis := rp.dis
theorem Rp.under (rp : Rp K H0 Γ σ H) : Same H0 (strip Γ σ H) := fun b o h => strip_some (rp.same b o h) (rp.noOwn h)
theorem strip_tk (rp : Rp K H0 Γ σ H) {G : Hp} (s : Same (strip Γ σ H) G) : TK H G := fun a xs h => s a _ (strip_some h (rp.tupOwn h))

/-! ### what is walked -/
def YD (K : PySem.W.Frag) (xs : List PyData) : Nat → Hp → V → Hp → Prop := fun i Ga v Gb => Same Ga Gb ∧ ∃ x, xs[i]? = some x ∧ Dt K Gb v x
def SemI (K : PySem.W.Frag) (Γ : List Sl) (wi : TI) (xs : List PyData) : Prop :=
  ∀ (H0 : Hp) (σ : L2.St) (H : Hp) (R : It → Hp → Prop), Rp K H0 Γ σ H →
    (∀ J H1, Same H H1 → L2.Walk J xs.length (fun G => Same (strip Γ σ H1) G) (YD K xs) → R J H1) → wi σ H R
theorem semi_tup {xs : List PyData} (h : Sem K Γ te (.d (.tuple xs))) : SemI K Γ (iTup K te) xs := fun H0 σ H R rp q =>
  h H0 σ H _ rp fun v H1 e1 a1 => by
    obtain ⟨p, vs, rfl, ht, hl⟩ := Dt.isTup a1
    have key : ∀ G, Same (strip Γ σ H1) G → TupAt K G p vs ∧ DtL K G vs xs := fun G s => by
      have k := strip_tk (rp.mono e1) s
      exact ⟨ht.keep k, DtL.keep k hl⟩
    refine ⟨p, rfl, ⟨vs, ht.sq⟩, q _ H1 e1 ?_⟩
    have w := (walk_tup (K := K) (a := p) (xs := vs))
    rw [hl.length] at w
    refine w.mono (fun G s => (key G s).1.sq) fun i G x G' hi s y => ?_
    obtain ⟨rfl, hx⟩ := y
    obtain ⟨d, h1, h2⟩ := DtL.at (key _ s).2 hx
    exact ⟨Same.refl _, d, h1, h2⟩
theorem semi_of {J : It} {n : Nat} {p : Addr} {vs : List V} {xs : List PyData} {H1 : Hp} (rp : Rp K H0 Γ σ H1) (hp : H1 p = some (.lst vs)) (no : ¬ OwnAt Γ σ p) (hl : DtL K H1 vs xs) {G : Hp} (s : Same (strip Γ σ H1) G) : G p = some (.lst vs) ∧ DtL K G vs xs :=
  ⟨s _ _ (strip_some hp no), DtL.keep (strip_tk rp s) hl⟩
/-- a new list -/
theorem semi_new {xs : List PyData} (h : Sem K Γ te (.l xs)) : SemI K Γ (iList K te) xs := fun H0 σ H R rp q =>
  h H0 σ H _ rp fun v H1 e1 a1 => by
    obtain ⟨p, vs, rfl, hn, ht, hl⟩ := a1
    have no := rp.newOwn hn
    refine ⟨p, rfl, ⟨vs, SqL.of ht⟩, q _ H1 e1 ?_⟩
    have w := (walk_list (K := K) (a := p) (xs := vs))
    rw [hl.length] at w
    refine w.mono (fun G s => SqL.of (semi_of (J := Itl K p) (n := 0) (rp.mono e1) ht no hl s).1) fun i G x G' hi s y => ?_
    obtain ⟨rfl, hx⟩ := y
    obtain ⟨d, h1, h2⟩ := DtL.at (semi_of (J := Itl K p) (n := 0) (rp.mono e1) ht no hl s).2 hx
    exact ⟨Same.refl _, d, h1, h2⟩
theorem Rp.frOwn (rp : Rp K H0 Γ σ H) {i : Nat} {xs : List PyData} {b : Addr} (hi : Γ[i]? = some (.f xs)) (hs : σ[i]? = some (some (.ref b))) : ¬ OwnAt Γ σ b := fun ⟨j, ys, h1, h2⟩ => by
  have ne : j ≠ i := fun e => by
    rw [e, hi] at h1
    cases h1
  exact rp.dis j i _ _ ne h1 hi rfl rfl (by rw [h2, hs])
/-- a list that was handed in -/
theorem semi_in {i : Nat} {xs : List PyData} (hi : Γ[i]? = some (.f xs)) : SemI K Γ (iList K (tVar i)) xs := fun H0 σ H R rp q => by
  obtain ⟨v, h1, p, vs, rfl, ht, hl⟩ := rp.at_ i _ hi (by intro z; cases z)
  have no := rp.frOwn hi h1
  refine ⟨_, h1, p, rfl, ⟨vs, SqL.of ht⟩, q _ H (Same.refl H) ?_⟩
  have w := (walk_list (K := K) (a := p) (xs := vs))
  rw [hl.length] at w
  refine w.mono (fun G s => SqL.of (semi_of (J := Itl K p) (n := 0) rp ht no hl s).1) fun i G x G' hi s y => ?_
  obtain ⟨rfl, hx⟩ := y
  obtain ⟨d, h1, h2⟩ := DtL.at (semi_of (J := Itl K p) (n := 0) rp ht no hl s).2 hx
  exact ⟨Same.refl _, d, h1, h2⟩
def pairs0 (xs : List PyData) : List PyData := xs.mapIdx fun i x => .tuple [.int (i : Nat), x]
theorem pairs0_at {xs : List PyData} {i : Nat} {x : PyData} (h : xs[i]? = some x) : (pairs0 xs)[i]? = some (.tuple [.int (i : Nat), x]) := by
  unfold pairs0
  rw [List.getElem?_mapIdx, h]
  rfl
theorem pairs0_len (xs : List PyData) : (pairs0 xs).length = xs.length := List.length_mapIdx
/-- enumerate(a list that was handed in) -/
theorem semi_enumIn {i : Nat} {xs : List PyData} (hi : Γ[i]? = some (.f xs)) : SemI K Γ (iEnum K (tCons (tVar i) tNil)) (pairs0 xs) := fun H0 σ H R rp q => by
  obtain ⟨v, h1, p, vs, rfl, ht, hl⟩ := rp.at_ i _ hi (by intro z; cases z)
  have no := rp.frOwn hi h1
  refine ⟨_, h1, p, vs, rfl, SqL.of ht, q _ H (Same.refl H) ?_⟩
  rw [pairs0_len]
  have w := (walk_enum (K := K) (a := p) (xs := vs))
  rw [hl.length] at w
  refine w.mono (fun G s => SqL.of (semi_of (J := Itl K p) (n := 0) rp ht no hl s).1) fun i G x G' hi s y => ?_
  obtain ⟨T, a, b, rfl, hT, rfl, ea, eb⟩ := y
  cases ea
  obtain ⟨d, h1, h2⟩ := DtL.at (semi_of (J := Itl K p) (n := 0) rp ht no hl s).2 eb
  refine ⟨same_new hT, _, pairs0_at h1, .tup (.inl upd_same) (.cons (.int _) (.cons (Dt.keep (TK.of (same_new hT)) h2) .nil))⟩
def pairs2 (xs ys : List PyData) : List PyData := List.zipWith (fun x y => .tuple [x, y]) xs ys
theorem semi_zip {i j : Nat} {xs ys : List PyData} {si sj : Sl} (hi : Γ[i]? = some (.l xs)) (hj : Γ[j]? = some (.l ys)) :
    ∀ (H0 : Hp) (σ : L2.St) (H : Hp) (R : It → Hp → Prop), Rp K H0 Γ σ H →
    (∀ J H1, Same H H1 → L2.Walk J (pairs2 xs ys).length (fun G => Same H1 G) (YD K (pairs2 xs ys)) → R J H1) → iZip K (tCons (tVar i) (tCons (tVar j) tNil)) σ H R := fun H0 σ H R rp q => by
  obtain ⟨p, vs, h1, h2, h3, _⟩ := rp.ownAt hi
  obtain ⟨p2, ws, g1, g2, g3, _⟩ := rp.ownAt hj
  refine ⟨_, h1, _, g1, p, p2, vs, ws, rfl, SqL.of h2, SqL.of g2, q _ H (Same.refl H) ?_⟩
  have w := (walk_zip (K := K) (a := p) (b := p2) (xs := vs) (ys := ws) rfl)
  have en : (pairs2 xs ys).length = min vs.length ws.length := by
    unfold pairs2
    rw [List.length_zipWith, h3.length, g3.length]
  rw [en]
  refine w.mono (fun G s => ⟨SqL.of (s _ _ h2), SqL.of (s _ _ g2)⟩) fun k G x G' hk s y => ?_
  obtain ⟨T, a, b, rfl, hT, rfl, ea, eb⟩ := y
  obtain ⟨d, h4, h5⟩ := DtL.at (DtL.keep (TK.of s) h3) ea
  obtain ⟨e, g4, g5⟩ := DtL.at (DtL.keep (TK.of s) g3) eb
  refine ⟨same_new hT, .tuple [d, e], ?_, .tup (.inl upd_same) (.cons (Dt.keep (TK.of (same_new hT)) h5) (.cons (Dt.keep (TK.of (same_new hT)) g5) .nil))⟩
  unfold pairs2
  rw [List.getElem?_zipWith, h4, g4]
/-- range(n) -/
theorem semi_range {n : Nat} (h : Sem K Γ te (.d (.int (n : Int)))) (hn : (n : Int) < 2 ^ 62) : SemI K Γ (iRng1 (tCons te tNil)) ((List.range n).map fun i => .int (i : Nat)) := fun H0 σ H R rp q =>
  h H0 σ H _ rp fun v H1 e1 a1 => by
    refine ⟨(n : Int), by rw [Dt.isInt a1], by omega, hn, q _ H1 e1 ?_⟩
    have w := (walk_range (lo := 0) (n := n))
    rw [List.length_map, List.length_range, Int.toNat_natCast]
    refine w.mono (fun _ _ => trivial) fun i G x G' hi s y => ?_
    obtain ⟨rfl, rfl⟩ := y
    refine ⟨Same.refl _, .int (i : Nat), ?_, ?_⟩
    · rw [List.getElem?_map, List.getElem?_range hi]
      rfl
    · show Dt K G' (V.int ((0 : Int) + (i : Nat))) (.int (i : Nat))
      rw [show (0 : Int) + (i : Nat) = (i : Nat) by omega]
      exact .int _

/-! ### for -/
theorem semb_for {wi : TI} {g : TG} {xs : List PyData} (Γs : Nat → List Sl) (hi : SemI K (Γs 0) wi xs)
    (hs : ∀ (i : Nat) (x : PyData), xs[i]? = some x → ∃ Γ1 js, SemG K g x (Γs i) Γ1 js ∧ (SemB K Γ1 tS (.nx (Γs (i + 1))) ∨ SemB K Γ1 tS (.ct (Γs (i + 1))))) : SemB K (Γs 0) (tFor wi g tS) (.nx (Γs xs.length)) := fun H0 σ H D rp q =>
  hi H0 σ H _ rp fun J H1 e1 w => by
    have rp1 := rp.mono e1
    refine for_it w (fun i σ' G => Rp K (strip (Γs 0) σ H1) (Γs i) σ' G) rp1.stripped (fun i σ' G _ r => r.same) (fun i v σ' G G' hi' r y => ?_) (fun σ' G r => q σ' G (r.lift rp1.under))
    obtain ⟨sm, x, hx, hd⟩ := y
    obtain ⟨Γ1, js, hg, hb⟩ := hs i x hx
    refine hg _ σ' G' v _ (r.mono sm) hd fun σ2 rp2 _ => ?_
    rcases hb with hb | hb
    · exact hb _ σ2 G' _ rp2 fun σ3 G3 r3 => r3
    · exact hb _ σ2 G' _ rp2 fun σ3 G3 r3 => r3
/-- a return at turn k -/
theorem semb_forR {wi : TI} {g : TG} {xs : List PyData} (Γs : Nat → List Sl) (k : Nat) (hi : SemI K (Γs 0) wi xs)
    (hs : ∀ (i : Nat) (x : PyData), i < k → xs[i]? = some x → ∃ Γ1 js, SemG K g x (Γs i) Γ1 js ∧ (SemB K Γ1 tS (.nx (Γs (i + 1))) ∨ SemB K Γ1 tS (.ct (Γs (i + 1)))))
    (hk : ∃ x, xs[k]? = some x ∧ ∃ Γ1 js, SemG K g x (Γs k) Γ1 js ∧ SemB K Γ1 tS (.rt r)) : SemB K (Γs 0) (tFor wi g tS) (.rt r) := fun H0 σ H D rp q =>
  hi H0 σ H _ rp fun J H1 e1 w => by
    have rp1 := rp.mono e1
    have hkl : k < xs.length := by
      obtain ⟨x, hx, _⟩ := hk
      exact (List.getElem?_eq_some_iff.mp hx).1
    refine for_it w (fun i σ' G => i ≤ k ∧ Rp K (strip (Γs 0) σ H1) (Γs i) σ' G) ⟨Nat.zero_le _, rp1.stripped⟩ (fun i σ' G _ r => r.2.same) (fun i v σ' G G' hi' r y => ?_) (fun σ' G r => absurd r.1 (by omega))
    obtain ⟨sm, x, hx, hd⟩ := y
    by_cases e : i < k
    · obtain ⟨Γ1, js, hg, hb⟩ := hs i x e hx
      refine hg _ σ' G' v _ (r.2.mono sm) hd fun σ2 rp2 _ => ?_
      rcases hb with hb | hb
      · exact hb _ σ2 G' _ rp2 fun σ3 G3 r3 => ⟨e, r3⟩
      · exact hb _ σ2 G' _ rp2 fun σ3 G3 r3 => ⟨e, r3⟩
    · have ek : i = k := by omega
      subst ek
      obtain ⟨x', hx', Γ1, js, hg, hb⟩ := hk
      rw [hx] at hx'
      cases hx'
      refine hg _ σ' G' v _ (r.2.mono sm) hd fun σ2 rp2 _ => ?_
      exact hb _ σ2 G' _ rp2 fun u G3 s3 a3 => q u G3 (rp1.under.trans s3) (a3.back rp1.under)
/-! ### while -/
theorem semb_while {tc : TT} (Γs : Nat → List Sl) (n : Nat) (ht : ∀ i, i < n → SemT K (Γs i) tc true) (hf : SemT K (Γs n) tc false) (hs : ∀ i, i < n → SemB K (Γs i) tS (.nx (Γs (i + 1)))) : SemB K (Γs 0) (tWhile tc tS) (.nx (Γs n)) := fun H0 σ H D rp q => by
  refine ⟨fun m σ' G => ∃ i, i ≤ n ∧ m = n - i ∧ Rp K H0 (Γs i) σ' G, ⟨n, 0, Nat.zero_le _, rfl, rp⟩, fun m σ' G hW => ?_⟩
  obtain ⟨i, hi, rfl, r⟩ := hW
  by_cases e : i < n
  · refine ht i e H0 σ' G _ r fun G1 e1 => iteT ?_
    refine ⟨fun σ2 G2 => Rp K H0 (Γs (i + 1)) σ2 G2, fun σ2 G2 r2 => ⟨n - (i + 1), by omega, i + 1, e, rfl, r2⟩, ?_⟩
    exact hs i e H0 σ' G1 _ (r.mono e1) fun σ2 G2 r2 => r2
  · have en : i = n := by omega
    subst en
    exact hf H0 σ' G _ r fun G1 e1 => iteF (q σ' G1 (r.mono e1))

/-! ### comprehensions -/
theorem wipe_at (σ : L2.St) (i : Nat) : ∀ vs : List Nat, (wipe σ vs)[i]? = if i ∈ vs ∧ i < σ.length then some none else σ[i]?
  | [] => by simp [wipe]
  | v :: vs => by
    unfold wipe
    rw [getElem?_set', wipe_at σ i vs, wipe_length]
    by_cases e : v = i
    · subst e
      rw [if_pos rfl]
      by_cases hl : v < σ.length
      · rw [if_pos hl, if_pos ⟨List.mem_cons_self, hl⟩]
      · rw [if_neg hl, if_neg (fun z => hl z.2), List.getElem?_eq_none_iff.mpr (by omega)]
    · rw [if_neg e]
      have m : i ∈ v :: vs ↔ i ∈ vs := by
        rw [List.mem_cons]
        exact ⟨fun z => z.resolve_left (fun q => e q.symm), .inr⟩
      simp only [m]
def wipeS (Γ : List Sl) : List Nat → List Sl
  | [] => Γ
  | v :: vs => (wipeS Γ vs).set v .un
theorem wipeS_len (Γ : List Sl) : ∀ vs : List Nat, (wipeS Γ vs).length = Γ.length
  | [] => rfl
  | v :: vs => by unfold wipeS; rw [List.length_set, wipeS_len Γ vs]
theorem wipeS_at (Γ : List Sl) (i : Nat) : ∀ vs : List Nat, (wipeS Γ vs)[i]? = if i ∈ vs ∧ i < Γ.length then some .un else Γ[i]?
  | [] => by simp [wipeS]
  | v :: vs => by
    unfold wipeS
    rw [getElem?_set', wipeS_at Γ i vs, wipeS_len]
    by_cases e : v = i
    · subst e
      rw [if_pos rfl]
      by_cases hl : v < Γ.length
      · rw [if_pos hl, if_pos ⟨List.mem_cons_self, hl⟩]
      · rw [if_neg hl, if_neg (fun z => hl z.2), List.getElem?_eq_none_iff.mpr (by omega)]
    · rw [if_neg e]
      have m : i ∈ v :: vs ↔ i ∈ vs := by
        rw [List.mem_cons]
        exact ⟨fun z => z.resolve_left (fun q => e q.symm), .inr⟩
      simp only [m]
theorem Rp.wiped (rp : Rp K H0 Γ σ H) (vs : List Nat) : Rp K H0 (wipeS Γ vs) (wipe σ vs) H := by
  have old : ∀ {i : Nat} {s : Sl}, (wipeS Γ vs)[i]? = some s → s ≠ .un → Γ[i]? = some s ∧ (wipe σ vs)[i]? = σ[i]? := fun {i s} h n => by
    rw [wipeS_at] at h
    by_cases c : i ∈ vs ∧ i < Γ.length
    · rw [if_pos c] at h
      cases h
      exact absurd rfl n
    · rw [if_neg c] at h
      refine ⟨h, ?_⟩
      rw [wipe_at, rp.len, if_neg c]
  have nun : ∀ {s : Sl}, s.isL = true → s ≠ .un := fun {s} h e => by
    rw [e] at h
    cases h
  refine ⟨rp.same, by rw [wipe_length, wipeS_len]; exact rp.len, fun i s h n => ?_, fun i j s u ne hi hj ho hl => ?_⟩
  · obtain ⟨h1, h2⟩ := old h n
    rw [h2]
    exact rp.at_ i s h1 n
  · obtain ⟨h1, h2⟩ := old hi (nun (own_isL ho))
    obtain ⟨h3, h4⟩ := old hj (nun hl)
    rw [h2, h4]
    exact rp.dis i j s u ne h1 h3 ho hl
theorem wipe_dif {js vs : List Nat} {σ σ' : L2.St} (d : Dif js (wipe σ vs) σ') (h : ∀ j ∈ js, j ∈ vs) : wipe σ' vs = wipe σ vs := by
  have hl : σ'.length = σ.length := by rw [d.1, wipe_length]
  apply List.ext_getElem?
  intro i
  rw [wipe_at, wipe_at, hl]
  by_cases c : i ∈ vs ∧ i < σ.length
  · rw [if_pos c, if_pos c]
  · rw [if_neg c, if_neg c]
    by_cases m : i ∈ vs
    · have e : σ.length ≤ i := by
        rcases Nat.lt_or_ge i σ.length with z | z
        · exact absurd ⟨m, z⟩ c
        · exact z
      rw [List.getElem?_eq_none_iff.mpr (by omega), List.getElem?_eq_none_iff.mpr e]
    · rw [d.2 i (fun z => m (h i z)), wipe_at, if_neg c]
/-- where a walk goes on while all that is tracked stands -/
def SemJ (K : PySem.W.Frag) (Γ : List Sl) (wi : TI) (xs : List PyData) : Prop :=
  ∀ (H0 : Hp) (σ : L2.St) (H : Hp) (R : It → Hp → Prop), Rp K H0 Γ σ H →
    (∀ J H1, Same H H1 → L2.Walk J xs.length (fun G => Same H1 G) (YD K xs) → R J H1) → wi σ H R
theorem SemI.j {wi : TI} {xs : List PyData} (h : SemI K Γ wi xs) : SemJ K Γ wi xs := fun H0 σ H R rp q =>
  h H0 σ H R rp fun J H1 e1 w => q J H1 e1 (w.mono (fun G s => strip_same.trans s) fun _ _ _ _ _ _ y => y)
/-- an own list, walked within an expression -/
theorem semj_own {i : Nat} {xs : List PyData} (hi : Γ[i]? = some (.l xs)) : SemJ K Γ (iList K (tVar i)) xs := fun H0 σ H R rp q => by
  obtain ⟨p, vs, h1, ht, hl, _⟩ := rp.ownAt hi
  refine ⟨_, h1, p, rfl, ⟨vs, SqL.of ht⟩, q _ H (Same.refl H) ?_⟩
  have w := (walk_list (K := K) (a := p) (xs := vs))
  rw [hl.length] at w
  refine w.mono (fun G s => SqL.of (s _ _ ht)) fun i G x G' hi s y => ?_
  obtain ⟨rfl, hx⟩ := y
  obtain ⟨d, h1, h2⟩ := DtL.at (DtL.keep (TK.of s) hl) hx
  exact ⟨Same.refl _, d, h1, h2⟩
theorem semj_zip {i j : Nat} {xs ys : List PyData} (hi : Γ[i]? = some (.l xs)) (hj : Γ[j]? = some (.l ys)) : SemJ K Γ (iZip K (tCons (tVar i) (tCons (tVar j) tNil))) (pairs2 xs ys) := semi_zip (si := .un) (sj := .un) hi hj
theorem sem_lc {α : Type} {wi : TI} {g : TG} {tt : TT} {vs : List Nat} (as : List α) (ed : α → PyData) (f : α → Option PyData) (hi : SemJ K Γ wi (as.map ed)) (hz : as.length ≤ 100000)
    (hs : ∀ a, a ∈ as → ∃ Γ1 js, SemG K g (ed a) (wipeS Γ vs) Γ1 js ∧ (∀ j ∈ js, j ∈ vs) ∧ ((∃ y, f a = some y ∧ SemT K Γ1 tt true ∧ Sem K Γ1 te (.d y)) ∨ (f a = none ∧ SemT K Γ1 tt false))) :
    Sem K Γ (tLc wi g tt te vs) (.l (as.filterMap f)) := fun H0 σ H Q rp q =>
  hi H0 σ H _ rp fun J H1 e1 w => fun D hD => by
    have rp1 := rp.mono e1
    have hlm : (as.map ed).length = as.length := List.length_map _
    refine lc_it w (fun i G => Same H1 G ∧ ∃ acc, G D = some (.lst acc) ∧ DtL K G acc ((as.take i).filterMap f)) ⟨same_new hD, [], upd_same, by rw [List.take_zero]; exact .nil⟩ (fun i G _ p => p.1) (fun i v G G' hi' p y => ?_) (fun G p => ?_)
    · obtain ⟨sm, acc, hacc, hdl⟩ := p
      obtain ⟨s2, x, hx, hd⟩ := y
      rw [List.getElem?_map] at hx
      obtain ⟨a, ha, rfl⟩ := Option.map_eq_some_iff.mp hx
      have hmem : a ∈ as := List.mem_of_getElem? ha
      obtain ⟨Γ1, js, hg, hjs, hcase⟩ := hs a hmem
      have rpw : Rp K H0 (wipeS Γ vs) (wipe σ vs) G' := (rp1.wiped vs).mono (sm.trans s2)
      have htk : (as.take (i + 1)).filterMap f = (as.take i).filterMap f ++ (f a).toList := by
        rw [List.take_add_one, ha, List.filterMap_append]
        cases hf : f a <;> simp [hf]
      refine hg H0 (wipe σ vs) G' v _ rpw hd fun σ2 rp2 dif => ⟨wipe_dif dif hjs, ?_⟩
      rcases hcase with ⟨y, hf, ht, he⟩ | ⟨hf, ht⟩
      · refine ht H0 σ2 G' _ rp2 fun G3 e3 => iteT ?_
        refine he H0 σ2 G3 _ (rp2.mono e3) fun u G4 e4 a4 => ?_
        have s5 : Same G G4 := (s2.trans e3).trans e4
        refine ⟨acc, s5 _ _ hacc, Nat.lt_of_le_of_lt (Nat.le_trans (by rw [hdl.length]; exact Nat.le_trans (List.length_filterMap_le _ _) (by rw [List.length_take]; omega)) hz) (by decide), ?_, acc ++ [u], upd_same, ?_⟩
        · refine fun b o e => ?_
          rw [upd_ne (by rintro rfl; rw [hD] at e; cases e)]
          exact s5 _ _ (sm _ _ e)
        · rw [htk, hf]
          have k : TK G4 (upd G4 D (.lst (acc ++ [u]))) := TK.upd (fun zs z => by rw [s5 _ _ hacc] at z; cases z)
          exact DtL.append (DtL.keep k (DtL.keep (TK.of s5) hdl)) (.cons (Dt.keep k a4) .nil)
      · refine ht H0 σ2 G' _ rp2 fun G3 e3 => iteF ?_
        have s5 : Same G G3 := s2.trans e3
        refine ⟨sm.trans s5, acc, s5 _ _ hacc, ?_⟩
        rw [htk, hf]
        show DtL K G3 acc (_ ++ [])
        rw [List.append_nil]
        exact DtL.keep (TK.of s5) hdl
    · obtain ⟨sm, acc, hacc, hdl⟩ := p
      rw [hlm, List.take_length] at hdl
      exact q _ G (e1.trans sm) ⟨D, acc, rfl, e1.free hD, hacc, hdl⟩
/-- without tests -/
theorem sem_lcM {α : Type} {wi : TI} {g : TG} {vs : List Nat} (as : List α) (ed : α → PyData) (f : α → PyData) (hi : SemJ K Γ wi (as.map ed)) (hz : as.length ≤ 100000)
    (hs : ∀ a, a ∈ as → ∃ Γ1 js, SemG K g (ed a) (wipeS Γ vs) Γ1 js ∧ (∀ j ∈ js, j ∈ vs) ∧ Sem K Γ1 te (.d (f a))) :
    Sem K Γ (tLc wi g tYes te vs) (.l (as.map f)) := by
  have e : as.map f = as.filterMap (fun x => some (f x)) := by simp
  rw [e]
  refine sem_lc as ed _ hi hz fun x hx => ?_
  obtain ⟨Γ1, js, h1, h2, h3⟩ := hs x hx
  exact ⟨Γ1, js, h1, h2, .inl ⟨f x, rfl, fun _ _ G _ _ q => q G (Same.refl G), h3⟩⟩
end
end RP
end
section
set_option maxHeartbeats 2000000
namespace RP
open PySem PySem.Spec PyProof.Rows L2
/-! ### a def that keeps a promise, by its name -/
structure Df (P : Program) (w : World) (K : PySem.W.Frag) (mg : Str → Option Value) (base : Heap) (CX : CXT) (k : Nat) (x : Str) (ps : List Str) (sp : Sp) : Prop where
  ex : ∃ f fd, FnOk P w K mg base CX k f fd ps sp ∧ mg x = some (.ref f) ∧ PySem.W.keepIn K (.ref f) = true ∧ Binds K fd ps []
/-- where a def of the text stands -/
def FnAt (K : PySem.W.Frag) (mg : Str → Option Value) (x : Str) (st : Stmt) : Prop :=
  ∃ f fd, FunD K x x (defArgs st) (defBody st) (defScope st) [] [] f fd ∧ mg x = some (.ref f)
section
variable {X : Cx}
theorem pe_df {CX : CXT} {E : XK} {k j : Nat} {x : Str} {ps : List Str} {sp : Sp} {e : Expr} {es : List Expr} {t : TA} {p pos : Pos} (D : Df X.prog X.w X.K X.mg X.base CX k x ps sp) (hr : Room j X.A) (hkj : k ≤ j) (hx : Passes CX X E) (hg : Gl X x) (ha : PA X (e :: es) t)
    (hdb : (x == ("__debug__" : Str)) = false := by decide) (he : starEach (e :: es) X.env = (false, eval e X.env) :: starEach es X.env := by rfl) (hpl : (backTo pos (starEach es X.env)).any (·.1) = false := by rfl) :
    PE X (.Call (.Name x p) (e :: es) [] pos) (tCall sp [] E t) := by
  obtain ⟨f, fd, F, hm, hk, hb⟩ := D.ex
  exact pe_call F (hr.mono hkj) hg hm hk hb .nil hx ha hdb he hpl
theorem pe_gint {x : Str} {i : Int} {pos : Pos} (hg : Gl X x) (hm : ∃ t, X.mg x = some (.int i t)) (hd : (x == ("__debug__" : Str)) = false := by decide) : PE X (.Name x pos) (tC (.int i)) := by
  obtain ⟨t, h⟩ := hm
  exact pe_glob hg h ⟨t, rfl⟩ hd
theorem pe_gstr {x z : Str} {pos : Pos} (hg : Gl X x) (hm : ∃ t, X.mg x = some (.str z t)) (hd : (x == ("__debug__" : Str)) = false := by decide) : PE X (.Name x pos) (tC (.str z)) := by
  obtain ⟨t, h⟩ := hm
  exact pe_glob hg h ⟨t, rfl⟩ hd
theorem pe_gref {x : Str} {a : Addr} {pos : Pos} (hg : Gl X x) (hm : X.mg x = some (.ref a)) (hd : (x == ("__debug__" : Str)) = false := by decide) : PE X (.Name x pos) (tC (.ref a)) := pe_glob hg hm rfl hd
/-- xs[k], read for xs[k] op= e -/
theorem get_list : PGet X (rIxN X.K) := by
  intro pins s σ H o i ov iv Q I ro ri h
  obtain ⟨p, xs, k, v, rfl, rfl, hs, hv, q⟩ := h
  obtain ⟨its, r, pl, hz⟩ := I.list hs
  obtain ⟨w, ew, rw'⟩ := r.get hv
  obtain ⟨t, rfl⟩ := ri
  cases ro
  have hk : k < xs.length := (List.getElem?_eq_some_iff.mp hv).1
  have hn := line63
  exact wpAny_getItem_list pl.isList (by omega) (by omega) (by rw [Int.toNat_natCast]; simpa using ew) ⟨v, H, I, rw', q⟩
end
/-- a parameter's slot -/
def Rk.par : Rk → Sl
  | .d x => .d x
  | .l xs => .f xs
  | .s xs => .f xs
  | .t _ => .un
  | .g R => .g R
theorem Rk.par_own (r : Rk) : r.par.isOwn = false := by cases r <;> rfl
def slots (N : List Str) (rs : List Rk) : List Sl := rs.map Rk.par ++ List.replicate (N.length - rs.length) .un
theorem agl_at {K : PySem.W.Frag} {H : Hp} : ∀ {vs : List V} {rs : List Rk} {i : Nat} {r : Rk}, AgL K H vs rs → rs[i]? = some r → ∃ v, vs[i]? = some v ∧ Ag K H r v
  | [], [], _, _, _, e => by simp at e
  | v :: vs, q :: rs, 0, r, h, e => by
    simp at e
    subst e
    exact ⟨v, rfl, h.1⟩
  | v :: vs, q :: rs, i + 1, r, h, e => by
    obtain ⟨u, h1, h2⟩ := agl_at (i := i) h.2 (by simpa using e)
    exact ⟨u, by simpa using h1, h2⟩
  | [], _ :: _, _, _, h, _ => h.elim
  | _ :: _, [], _, _, h, _ => h.elim
theorem rp_start {K : PySem.W.Frag} {H : Hp} {N : List Str} {vs : List V} {rs : List Rk} (h : AgL K H vs rs) : Rp K H (slots N rs) (L2.start N vs) H where
  same := Same.refl H
  len := by
    unfold slots L2.start
    rw [List.length_append, List.length_append, List.length_map, List.length_map, List.length_replicate, List.length_replicate, h.length]
  at_ := fun i s hs n => by
    unfold slots at hs
    unfold L2.start
    by_cases hi : i < rs.length
    · rw [List.getElem?_append_left (by rw [List.length_map]; exact hi), List.getElem?_map] at hs
      rw [List.getElem?_append_left (by rw [List.length_map, h.length]; exact hi), List.getElem?_map]
      cases hr : rs[i]? with
      | none =>
        rw [hr] at hs
        cases hs
      | some r =>
        rw [hr] at hs
        cases hs
        obtain ⟨v, h1, h2⟩ := agl_at h hr
        rw [h1]
        refine ⟨v, rfl, ?_⟩
        cases r with
        | d x => exact h2
        | l xs => exact h2
        | s xs => exact h2
        | t m => exact absurd rfl n
        | g R => exact h2
    · rw [List.getElem?_append_right (by rw [List.length_map]; omega), List.getElem?_replicate] at hs
      split at hs
      · cases hs
        exact absurd rfl n
      · cases hs
  dis := fun i j s u ne hi hj ho hl => by
    exfalso
    unfold slots at hi
    by_cases hb : i < rs.length
    · rw [List.getElem?_append_left (by rw [List.length_map]; exact hb), List.getElem?_map] at hi
      cases hr : rs[i]? with
      | none =>
        rw [hr] at hi
        cases hi
      | some r =>
        rw [hr] at hi
        cases hi
        rw [Rk.par_own] at ho
        cases ho
    · rw [List.getElem?_append_right (by rw [List.length_map]; omega), List.getElem?_replicate] at hi
      split at hi
      · cases hi
        cases ho
      · cases hi
def Fin_ (o : Oc) (r : Rk) : Prop := o = .rt r ∨ ∃ Γ, o = .nx Γ ∧ r = .d .none
section
variable {P : Program} {w : World} {K : PySem.W.Frag} {mg : Str → Option Value} {base : Heap}
/-- a def of data, from its body's derivation and what the reading does -/
theorem df_sem {CX : CXT} {st : Stmt} {x : Str} {N ps : List Str} {k : Nat} {pre : List Rk → Rk → Prop} (hF : FnAt K mg x st)
    (hb : ∀ (kV doc pm : Value) (an : Option Addr) (cdv ct : Value) (us : List Value), us.length = ps.length → bindArgs (PySem.W.fnOf x x (defArgs st) (defBody st) (defScope st) .none kV doc pm an cdv ct) ⟨us, []⟩ = pure (ps.zip us))
    (S : FnScope N ps (defScope st)) (len : ∀ rs r, pre rs r → rs.length = ps.length)
    (body : ∀ rs r, pre rs r → ∀ (f : Addr) (cdv : Value) (A : Around) (outer : List Env) (s : Shared) (H : Hp) (E : XK), Room k (A.deeper (envOfC x (defScope st) s.heap.objs.size f cdv)) →
      ∃ t, PSs (cxOf CX P w K mg base N x (defScope st) f cdv A outer s H E).nox (defBody st) t ∧ ∃ o, SemB K (slots N rs) t o ∧ Fin_ o r) : Df P w K mg base CX (k + 1) x ps (spF K pre) := by
  obtain ⟨f, fd, F, hm⟩ := hF
  refine ⟨f, fd, ?_, hm, F.kp, F.bindsN hb⟩
  refine F.ok S (fun vs H Q E h => ?_) (fun cdv A outer s H vs Q E hr h => ?_)
  · obtain ⟨rs, r, h1, h2, _⟩ := h
    rw [h2.length, len rs r h1]
  · obtain ⟨rs, r, h1, h2, h3⟩ := h
    obtain ⟨t, d, o, sb, fin⟩ := body rs r h1 f cdv A outer s H E hr
    refine ⟨t, PSs.nox d, sb H _ H _ (rp_start h2) ?_⟩
    rcases fin with rfl | ⟨Γ, rfl, rfl⟩
    · exact fun v H' e a => h3 v H' e a
    · exact fun σ' H' rp => h3 .non H' rp.same .non
theorem df_imp {CX : CXT} {k : Nat} {x : Str} {ps : List Str} {sp sp' : Sp} (D : Df P w K mg base CX k x ps sp) (h : ∀ vs H Q E, sp' vs H Q E → sp vs H Q E) : Df P w K mg base CX k x ps sp' := by
  obtain ⟨f, fd, F, hm, hk, hb⟩ := D.ex
  exact ⟨f, fd, F.imp h, hm, hk, hb⟩
end
end RP
end
section
set_option maxHeartbeats 2000000
namespace RP
open PySem PySem.Spec PyProof.Rows L2
/-- fewer slots are known -/
inductive Le : List Sl → List Sl → Prop
  | nil : Le [] []
  | un {s : Sl} {a b : List Sl} : Le a b → Le (.un :: a) (s :: b)
  | eq {s u : Sl} {a b : List Sl} : s = u → Le a b → Le (s :: a) (u :: b)
theorem Le.refl : ∀ a : List Sl, Le a a
  | [] => .nil
  | s :: a => .eq rfl (Le.refl a)
theorem Le.at : ∀ {a b : List Sl}, Le a b → ∀ (i : Nat) (s : Sl), a[i]? = some s → s ≠ .un → b[i]? = some s
  | _, _, .nil, i, s, h, _ => by simp at h
  | _, _, .un t, 0, s, h, n => by
    simp at h
    exact absurd h.symm n
  | _, _, .un t, i + 1, s, h, n => by simpa using t.at i s (by simpa using h) n
  | _, _, .eq e t, 0, s, h, n => by
    subst e
    simpa using h
  | _, _, .eq e t, i + 1, s, h, n => by simpa using t.at i s (by simpa using h) n
theorem Le.len : ∀ {a b : List Sl}, Le a b → a.length = b.length
  | _, _, .nil => rfl
  | _, _, .un t => congrArg Nat.succ t.len
  | _, _, .eq _ t => congrArg Nat.succ t.len
section
variable {K : PySem.W.Frag} {H0 H H' : Hp} {Γ Γ1 Γ2 : List Sl} {σ : L2.St} {tS uS : TS} {te : TE}
theorem Rp.weak (rp : Rp K H0 Γ1 σ H) (l : Le Γ2 Γ1) : Rp K H0 Γ2 σ H where
  same := rp.same
  len := by rw [l.len]; exact rp.len
  at_ := fun i s h n => rp.at_ i s (l.at i s h n) n
  dis := fun i j s u ne hi hj ho hl => by
    have h1 : s ≠ .un := fun e => by
      rw [e] at ho
      cases ho
    have h2 : u ≠ .un := fun e => by
      rw [e] at hl
      cases hl
    exact rp.dis i j s u ne (l.at i s hi h1) (l.at j u hj h2) ho hl
theorem SemB.weak (h : SemB K Γ tS (.nx Γ1)) (l : Le Γ2 Γ1) : SemB K Γ tS (.nx Γ2) := fun H0 σ H D rp q =>
  h H0 σ H D rp fun σ' H' rp' => q σ' H' (rp'.weak l)
theorem SemB.from (h : SemB K Γ2 tS o) (l : Le Γ2 Γ1) : SemB K Γ1 tS o := fun H0 σ H D rp q => h H0 σ H D (rp.weak l) q
end
section
variable {P : Program} {w : World} {K : PySem.W.Frag} {mg : Str → Option Value} {base : Heap}
/-- a def that nothing is asked of -/
theorem df_none {CX : CXT} {st : Stmt} {x : Str} {ps : List Str} {k : Nat} {pre : List Rk → Rk → Prop} (hF : FnAt K mg x st)
    (hb : ∀ (kV doc pm : Value) (an : Option Addr) (cdv ct : Value) (us : List Value), us.length = ps.length → bindArgs (PySem.W.fnOf x x (defArgs st) (defBody st) (defScope st) .none kV doc pm an cdv ct) ⟨us, []⟩ = pure (ps.zip us))
    (no : ∀ rs r, ¬ pre rs r) : Df P w K mg base CX k x ps (spF K pre) := by
  obtain ⟨f, fd, F, hm⟩ := hF
  refine ⟨f, fd, ⟨fun vs H Q E h => ?_, fun A outer s H args us vs Q E _ _ _ _ h => ?_⟩, hm, F.kp, F.bindsN hb⟩
  · obtain ⟨rs, r, h1, _⟩ := h
    exact absurd h1 (no rs r)
  · obtain ⟨rs, r, h1, _⟩ := h
    exact absurd h1 (no rs r)
theorem Df.mono {CX : CXT} {k j : Nat} {x : Str} {ps : List Str} {sp : Sp} (D : Df P w K mg base CX k x ps sp) (h : k ≤ j) : Df P w K mg base CX j x ps sp := by
  obtain ⟨f, fd, F, hm, hk, hb⟩ := D.ex
  exact ⟨f, fd, F.mono h, hm, hk, hb⟩
end
end RP
end
section
set_option maxHeartbeats 2000000
namespace RP
open PySem PySem.Spec PyProof.Rows L2
/-! ### the text by places -/
abbrev s_is_integer : Stmt := top 13
abbrev n_is_integer : List Str := ["value"]
abbrev p_is_integer : List Str := ["value"]
theorem sc_is_integer : FnScope n_is_integer p_is_integer (defScope s_is_integer) := ⟨rfl, rfl, rfl, by decide +kernel, rfl, by decide +kernel, by decide +kernel⟩
abbrev s_is_between : Stmt := top 14
abbrev n_is_between : List Str := ["value", "low", "high"]
abbrev p_is_between : List Str := ["value", "low", "high"]
theorem sc_is_between : FnScope n_is_between p_is_between (defScope s_is_between) := ⟨rfl, rfl, rfl, by decide +kernel, rfl, by decide +kernel, by decide +kernel⟩
abbrev s_is_number : Stmt := top 15
abbrev n_is_number : List Str := ["value"]
abbrev p_is_number : List Str := ["value"]
theorem sc_is_number : FnScope n_is_number p_is_number (defScope s_is_number) := ⟨rfl, rfl, rfl, by decide +kernel, rfl, by decide +kernel, by decide +kernel⟩
abbrev s_is_node : Stmt := top 25
abbrev n_is_node : List Str := ["job"]
abbrev p_is_node : List Str := ["job"]
theorem sc_is_node : FnScope n_is_node p_is_node (defScope s_is_node) := ⟨rfl, rfl, rfl, by decide +kernel, rfl, by decide +kernel, by decide +kernel⟩
abbrev s_measured : Stmt := top 26
abbrev n_measured : List Str := ["value", "depth"]
abbrev p_measured : List Str := ["value", "depth"]
theorem sc_measured : FnScope n_measured p_measured (defScope s_measured) := ⟨rfl, rfl, rfl, by decide +kernel, rfl, by decide +kernel, by decide +kernel⟩
abbrev s_measured_parts : Stmt := top 27
abbrev n_measured_parts : List Str := ["parts", "depth", "nodes", "steps", "part", "sizes"]
abbrev p_measured_parts : List Str := ["parts", "depth"]
theorem sc_measured_parts : FnScope n_measured_parts p_measured_parts (defScope s_measured_parts) := ⟨rfl, rfl, rfl, by decide +kernel, rfl, by decide +kernel, by decide +kernel⟩
abbrev s_measured_multiple : Stmt := top 28
abbrev n_measured_multiple : List Str := ["count", "inner", "depth", "sizes"]
abbrev p_measured_multiple : List Str := ["count", "inner", "depth"]
theorem sc_measured_multiple : FnScope n_measured_multiple p_measured_multiple (defScope s_measured_multiple) := ⟨rfl, rfl, rfl, by decide +kernel, rfl, by decide +kernel, by decide +kernel⟩
abbrev s_is_job : Stmt := top 29
abbrev n_is_job : List Str := ["value"]
abbrev p_is_job : List Str := ["value"]
theorem sc_is_job : FnScope n_is_job p_is_job (defScope s_is_job) := ⟨rfl, rfl, rfl, by decide +kernel, rfl, by decide +kernel, by decide +kernel⟩
abbrev s_check_job : Stmt := top 30
abbrev n_check_job : List Str := ["job"]
abbrev p_check_job : List Str := ["job"]
theorem sc_check_job : FnScope n_check_job p_check_job (defScope s_check_job) := ⟨rfl, rfl, rfl, by decide +kernel, rfl, by decide +kernel, by decide +kernel⟩
abbrev s_step_count_by : Stmt := top 31
abbrev n_step_count_by : List Str := ["job", "part"]
abbrev p_step_count_by : List Str := ["job"]
theorem sc_step_count_by : FnScope n_step_count_by p_step_count_by (defScope s_step_count_by) := ⟨rfl, rfl, rfl, by decide +kernel, rfl, by decide +kernel, by decide +kernel⟩
abbrev s_grouped : Stmt := top 32
abbrev n_grouped : List Str := ["parts", "inners", "counts", "part", "count", "inner"]
abbrev p_grouped : List Str := ["parts"]
theorem sc_grouped : FnScope n_grouped p_grouped (defScope s_grouped) := ⟨rfl, rfl, rfl, by decide +kernel, rfl, by decide +kernel, by decide +kernel⟩
abbrev s_tidy_parts : Stmt := top 33
abbrev n_tidy_parts : List Str := ["word", "parts", "found", "part"]
abbrev p_tidy_parts : List Str := ["word", "parts"]
theorem sc_tidy_parts : FnScope n_tidy_parts p_tidy_parts (defScope s_tidy_parts) := ⟨rfl, rfl, rfl, by decide +kernel, rfl, by decide +kernel, by decide +kernel⟩
abbrev s_tidy_by : Stmt := top 34
abbrev n_tidy_by : List Str := ["job", "word", "count", "inner", "part"]
abbrev p_tidy_by : List Str := ["job"]
theorem sc_tidy_by : FnScope n_tidy_by p_tidy_by (defScope s_tidy_by) := ⟨rfl, rfl, rfl, by decide +kernel, rfl, by decide +kernel, by decide +kernel⟩
abbrev s_as_job : Stmt := top 35
abbrev n_as_job : List Str := ["job"]
abbrev p_as_job : List Str := ["job"]
theorem sc_as_job : FnScope n_as_job p_as_job (defScope s_as_job) := ⟨rfl, rfl, rfl, by decide +kernel, rfl, by decide +kernel, by decide +kernel⟩
abbrev s_descending : Stmt := top 38
abbrev n_descending : List Str := ["pairs", "found", "capacity", "usage"]
abbrev p_descending : List Str := ["pairs"]
theorem sc_descending : FnScope n_descending p_descending (defScope s_descending) := ⟨rfl, rfl, rfl, by decide +kernel, rfl, by decide +kernel, by decide +kernel⟩
abbrev s_moved : Stmt := top 39
abbrev n_moved : List Str := ["valleys", "amount", "capacity", "usage"]
abbrev p_moved : List Str := ["valleys", "amount"]
theorem sc_moved : FnScope n_moved p_moved (defScope s_moved) := ⟨rfl, rfl, rfl, by decide +kernel, rfl, by decide +kernel, by decide +kernel⟩
abbrev s_step_profile_by : Stmt := top 40
abbrev n_step_profile_by : List Str := ["value"]
abbrev p_step_profile_by : List Str := ["value"]
theorem sc_step_profile_by : FnScope n_step_profile_by p_step_profile_by (defScope s_step_profile_by) := ⟨rfl, rfl, rfl, by decide +kernel, rfl, by decide +kernel, by decide +kernel⟩
abbrev s_start_behind : Stmt := top 41
abbrev n_start_behind : List Str := ["first", "second", "net", "peak", "start", "end", "pairs", "pair", "capacity", "usage"]
abbrev p_start_behind : List Str := ["first", "second"]
theorem sc_start_behind : FnScope n_start_behind p_start_behind (defScope s_start_behind) := ⟨rfl, rfl, rfl, by decide +kernel, rfl, by decide +kernel, by decide +kernel⟩
abbrev s_end_behind : Stmt := top 42
abbrev n_end_behind : List Str := ["first", "second", "net", "late", "pairs", "pair", "capacity", "usage"]
abbrev p_end_behind : List Str := ["first", "second"]
theorem sc_end_behind : FnScope n_end_behind p_end_behind (defScope s_end_behind) := ⟨rfl, rfl, rfl, by decide +kernel, rfl, by decide +kernel, by decide +kernel⟩
abbrev s_two_profiles_by : Stmt := top 43
abbrev n_two_profiles_by : List Str := ["first", "second", "net", "peak"]
abbrev p_two_profiles_by : List Str := ["first", "second"]
theorem sc_two_profiles_by : FnScope n_two_profiles_by p_two_profiles_by (defScope s_two_profiles_by) := ⟨rfl, rfl, rfl, by decide +kernel, rfl, by decide +kernel, by decide +kernel⟩
abbrev s_seq_profiles_by : Stmt := top 44
abbrev n_seq_profiles_by : List Str := ["profiles", "found", "profile"]
abbrev p_seq_profiles_by : List Str := ["profiles"]
theorem sc_seq_profiles_by : FnScope n_seq_profiles_by p_seq_profiles_by (defScope s_seq_profiles_by) := ⟨rfl, rfl, rfl, by decide +kernel, rfl, by decide +kernel, by decide +kernel⟩
abbrev s_next_drop : Stmt := top 46
abbrev n_next_drop : List Str := ["parts", "places", "lows", "total", "found", "number", "valleys"]
abbrev p_next_drop : List Str := ["parts", "places", "lows"]
theorem sc_next_drop : FnScope n_next_drop p_next_drop (defScope s_next_drop) := ⟨rfl, rfl, rfl, by decide +kernel, rfl, by decide +kernel, by decide +kernel⟩
abbrev s_joint : Stmt := top 47
abbrev n_joint : List Str := ["parts", "places", "lows", "pairs", "capacity", "drop", "number", "valleys"]
abbrev p_joint : List Str := ["parts"]
theorem sc_joint : FnScope n_joint p_joint (defScope s_joint) := ⟨rfl, rfl, rfl, by decide +kernel, rfl, by decide +kernel, by decide +kernel⟩
abbrev s_peak_beside : Stmt := top 48
abbrev n_peak_beside : List Str := ["profiles", "start", "end", "lowest", "peaks", "profile"]
abbrev p_peak_beside : List Str := ["profiles", "start", "end"]
theorem sc_peak_beside : FnScope n_peak_beside p_peak_beside (defScope s_peak_beside) := ⟨rfl, rfl, rfl, by decide +kernel, rfl, by decide +kernel, by decide +kernel⟩
abbrev s_par_profiles_by : Stmt := top 49
abbrev n_par_profiles_by : List Str := ["profiles", "net", "start", "end", "profile"]
abbrev p_par_profiles_by : List Str := ["profiles"]
theorem sc_par_profiles_by : FnScope n_par_profiles_by p_par_profiles_by (defScope s_par_profiles_by) := ⟨rfl, rfl, rfl, by decide +kernel, rfl, by decide +kernel, by decide +kernel⟩
abbrev s_rounds_start : Stmt := top 51
abbrev n_rounds_start : List Str := ["count", "net", "peak", "start", "early", "pair"]
abbrev p_rounds_start : List Str := ["count", "net", "peak", "start"]
theorem sc_rounds_start : FnScope n_rounds_start p_rounds_start (defScope s_rounds_start) := ⟨rfl, rfl, rfl, by decide +kernel, rfl, by decide +kernel, by decide +kernel⟩
abbrev s_repeat_profile_by : Stmt := top 52
abbrev n_repeat_profile_by : List Str := ["count", "profile", "net", "peak", "start", "end", "total", "back"]
abbrev p_repeat_profile_by : List Str := ["count", "profile"]
theorem sc_repeat_profile_by : FnScope n_repeat_profile_by p_repeat_profile_by (defScope s_repeat_profile_by) := ⟨rfl, rfl, rfl, by decide +kernel, rfl, by decide +kernel, by decide +kernel⟩
abbrev s_copies_start : Stmt := top 53
abbrev n_copies_start : List Str := ["count", "start", "pairs", "capacity", "low", "needed", "usage"]
abbrev p_copies_start : List Str := ["count", "start"]
theorem sc_copies_start : FnScope n_copies_start p_copies_start (defScope s_copies_start) := ⟨rfl, rfl, rfl, by decide +kernel, rfl, by decide +kernel, by decide +kernel⟩
abbrev s_copies_profile_by : Stmt := top 54
abbrev n_copies_profile_by : List Str := ["count", "profile", "net", "peak", "start", "end", "total", "low", "back", "alone"]
abbrev p_copies_profile_by : List Str := ["count", "profile"]
theorem sc_copies_profile_by : FnScope n_copies_profile_by p_copies_profile_by (defScope s_copies_profile_by) := ⟨rfl, rfl, rfl, by decide +kernel, rfl, by decide +kernel, by decide +kernel⟩
abbrev s_profile_by : Stmt := top 56
abbrev n_profile_by : List Str := ["job", "word", "count", "inner", "part"]
abbrev p_profile_by : List Str := ["job"]
theorem sc_profile_by : FnScope n_profile_by p_profile_by (defScope s_profile_by) := ⟨rfl, rfl, rfl, by decide +kernel, rfl, by decide +kernel, by decide +kernel⟩
abbrev s_least_peak : Stmt := top 58
abbrev n_least_peak : List Str := ["job"]
abbrev p_least_peak : List Str := ["job"]
theorem sc_least_peak : FnScope n_least_peak p_least_peak (defScope s_least_peak) := ⟨rfl, rfl, rfl, by decide +kernel, rfl, by decide +kernel, by decide +kernel⟩
abbrev s_inner_at : Stmt := top 60
abbrev n_inner_at : List Str := ["job", "index"]
abbrev p_inner_at : List Str := ["job", "index"]
theorem sc_inner_at : FnScope n_inner_at p_inner_at (defScope s_inner_at) := ⟨rfl, rfl, rfl, by decide +kernel, rfl, by decide +kernel, by decide +kernel⟩
abbrev s_step_by : Stmt := top 61
abbrev n_step_by : List Str := ["job", "address", "index"]
abbrev p_step_by : List Str := ["job", "address"]
theorem sc_step_by : FnScope n_step_by p_step_by (defScope s_step_by) := ⟨rfl, rfl, rfl, by decide +kernel, rfl, by decide +kernel, by decide +kernel⟩
abbrev s_is_address_by : Stmt := top 62
abbrev n_is_address_by : List Str := ["job", "value"]
abbrev p_is_address_by : List Str := ["job", "value"]
theorem sc_is_address_by : FnScope n_is_address_by p_is_address_by (defScope s_is_address_by) := ⟨rfl, rfl, rfl, by decide +kernel, rfl, by decide +kernel, by decide +kernel⟩
abbrev s_step_value : Stmt := top 63
abbrev n_step_value : List Str := ["job", "address", "found"]
abbrev p_step_value : List Str := ["job", "address"]
theorem sc_step_value : FnScope n_step_value p_step_value (defScope s_step_value) := ⟨rfl, rfl, rfl, by decide +kernel, rfl, by decide +kernel, by decide +kernel⟩
abbrev s_is_name : Stmt := top 67
abbrev n_is_name : List Str := ["value", "letter"]
abbrev p_is_name : List Str := ["value"]
theorem sc_is_name : FnScope n_is_name p_is_name (defScope s_is_name) := ⟨rfl, rfl, rfl, by decide +kernel, rfl, by decide +kernel, by decide +kernel⟩
abbrev s_choices_by : Stmt := top 69
abbrev n_choices_by : List Str := ["job", "found", "index", "part", "rest"]
abbrev p_choices_by : List Str := ["job"]
theorem sc_choices_by : FnScope n_choices_by p_choices_by (defScope s_choices_by) := ⟨rfl, rfl, rfl, by decide +kernel, rfl, by decide +kernel, by decide +kernel⟩
abbrev s_is_choice_by : Stmt := top 70
abbrev n_is_choice_by : List Str := ["job", "value"]
abbrev p_is_choice_by : List Str := ["job", "value"]
theorem sc_is_choice_by : FnScope n_is_choice_by p_is_choice_by (defScope s_is_choice_by) := ⟨rfl, rfl, rfl, by decide +kernel, rfl, by decide +kernel, by decide +kernel⟩
abbrev s_check_choice : Stmt := top 71
abbrev n_check_choice : List Str := ["job", "choice"]
abbrev p_check_choice : List Str := ["job", "choice"]
theorem sc_check_choice : FnScope n_check_choice p_check_choice (defScope s_check_choice) := ⟨rfl, rfl, rfl, by decide +kernel, rfl, by decide +kernel, by decide +kernel⟩
abbrev s_left_by : Stmt := top 72
abbrev n_left_by : List Str := ["job", "choice", "index", "left", "earlier", "word", "count", "inner", "others"]
abbrev p_left_by : List Str := ["job", "choice"]
theorem sc_left_by : FnScope n_left_by p_left_by (defScope s_left_by) := ⟨rfl, rfl, rfl, by decide +kernel, rfl, by decide +kernel, by decide +kernel⟩
abbrev s_remainder_by : Stmt := top 73
abbrev n_remainder_by : List Str := ["job", "choice"]
abbrev p_remainder_by : List Str := ["job", "choice"]
theorem sc_remainder_by : FnScope n_remainder_by p_remainder_by (defScope s_remainder_by) := ⟨rfl, rfl, rfl, by decide +kernel, rfl, by decide +kernel, by decide +kernel⟩
abbrev s_choices : Stmt := top 74
abbrev n_choices : List Str := ["job"]
abbrev p_choices : List Str := ["job"]
theorem sc_choices : FnScope n_choices p_choices (defScope s_choices) := ⟨rfl, rfl, rfl, by decide +kernel, rfl, by decide +kernel, by decide +kernel⟩
abbrev s_do_step : Stmt := top 75
abbrev n_do_step : List Str := ["job", "choice"]
abbrev p_do_step : List Str := ["job", "choice"]
theorem sc_do_step : FnScope n_do_step p_do_step (defScope s_do_step) := ⟨rfl, rfl, rfl, by decide +kernel, rfl, by decide +kernel, by decide +kernel⟩
abbrev s_check_limit : Stmt := top 78
abbrev n_check_limit : List Str := ["value"]
abbrev p_check_limit : List Str := ["value"]
theorem sc_check_limit : FnScope n_check_limit p_check_limit (defScope s_check_limit) := ⟨rfl, rfl, rfl, by decide +kernel, rfl, by decide +kernel, by decide +kernel⟩
abbrev s_joint_of : Stmt := top 79
abbrev n_joint_of : List Str := ["jobs", "rest", "name", "job"]
abbrev p_joint_of : List Str := ["jobs"]
theorem sc_joint_of : FnScope n_joint_of p_joint_of (defScope s_joint_of) := ⟨rfl, rfl, rfl, by decide +kernel, rfl, by decide +kernel, by decide +kernel⟩
abbrev s_usage_in : Stmt := top 80
abbrev n_usage_in : List Str := ["jobs", "job", "usage"]
abbrev p_usage_in : List Str := ["jobs"]
theorem sc_usage_in : FnScope n_usage_in p_usage_in (defScope s_usage_in) := ⟨rfl, rfl, rfl, by decide +kernel, rfl, by decide +kernel, by decide +kernel⟩
abbrev s_need_in : Stmt := top 81
abbrev n_need_in : List Str := ["jobs"]
abbrev p_need_in : List Str := ["jobs"]
theorem sc_need_in : FnScope n_need_in p_need_in (defScope s_need_in) := ⟨rfl, rfl, rfl, by decide +kernel, rfl, by decide +kernel, by decide +kernel⟩
abbrev s_check_joint : Stmt := top 82
abbrev n_check_joint : List Str := ["jobs"]
abbrev p_check_joint : List Str := ["jobs"]
theorem sc_check_joint : FnScope n_check_joint p_check_joint (defScope s_check_joint) := ⟨rfl, rfl, rfl, by decide +kernel, rfl, by decide +kernel, by decide +kernel⟩
abbrev s_check_safe : Stmt := top 83
abbrev n_check_safe : List Str := ["capacity", "jobs", "need"]
abbrev p_check_safe : List Str := ["capacity", "jobs"]
theorem sc_check_safe : FnScope n_check_safe p_check_safe (defScope s_check_safe) := ⟨rfl, rfl, rfl, by decide +kernel, rfl, by decide +kernel, by decide +kernel⟩
abbrev s_stepped : Stmt := top 84
abbrev n_stepped : List Str := ["jobs", "name", "choice", "job", "usage", "found"]
abbrev p_stepped : List Str := ["jobs", "name", "choice"]
theorem sc_stepped : FnScope n_stepped p_stepped (defScope s_stepped) := ⟨rfl, rfl, rfl, by decide +kernel, rfl, by decide +kernel, by decide +kernel⟩
abbrev s_law_begun : Stmt := top 87
abbrev n_law_begun : List Str := ["_law_script", "_law_at", "_law_cell", "_law_size", "_law_mixed"]
abbrev p_law_begun : List Str := ["_law_script", "_law_at"]
theorem sc_law_begun : FnScope n_law_begun p_law_begun (defScope s_law_begun) := ⟨rfl, rfl, rfl, by decide +kernel, rfl, by decide +kernel, by decide +kernel⟩
abbrev s_law_draw : Stmt := top 88
abbrev n_law_draw : List Str := ["_law_pot", "_law_many", "_law_found", "_law_one", "_law_two"]
abbrev p_law_draw : List Str := ["_law_pot", "_law_many"]
theorem sc_law_draw : FnScope n_law_draw p_law_draw (defScope s_law_draw) := ⟨rfl, rfl, rfl, by decide +kernel, rfl, by decide +kernel, by decide +kernel⟩
abbrev s_law_great : Stmt := top 89
abbrev n_law_great : List Str := ["_law_pot", "_law_many", "_law_found", "_law_turn"]
abbrev p_law_great : List Str := ["_law_pot", "_law_many"]
theorem sc_law_great : FnScope n_law_great p_law_great (defScope s_law_great) := ⟨rfl, rfl, rfl, by decide +kernel, rfl, by decide +kernel, by decide +kernel⟩
abbrev s_law_drawn_step : Stmt := top 90
abbrev n_law_drawn_step : List Str := ["_law_pot", "_law_way", "_law_some"]
abbrev p_law_drawn_step : List Str := ["_law_pot"]
theorem sc_law_drawn_step : FnScope n_law_drawn_step p_law_drawn_step (defScope s_law_drawn_step) := ⟨rfl, rfl, rfl, by decide +kernel, rfl, by decide +kernel, by decide +kernel⟩
abbrev s_law_drawn_job : Stmt := top 91
abbrev n_law_drawn_job : List Str := ["_law_pot", "_law_upto", "_law_deep", "_law_way", "_law_parts", "_law_left", "_law_turn", "_law_few", "_law_count"]
abbrev p_law_drawn_job : List Str := ["_law_pot", "_law_upto", "_law_deep"]
theorem sc_law_drawn_job : FnScope n_law_drawn_job p_law_drawn_job (defScope s_law_drawn_job) := ⟨rfl, rfl, rfl, by decide +kernel, rfl, by decide +kernel, by decide +kernel⟩
abbrev s_law_great_job : Stmt := top 92
abbrev n_law_great_job : List Str := ["_law_pot", "_law_deep", "_law_counts", "_law_way", "_law_parts", "_law_count", "_law_turn"]
abbrev p_law_great_job : List Str := ["_law_pot", "_law_deep", "_law_counts"]
theorem sc_law_great_job : FnScope n_law_great_job p_law_great_job (defScope s_law_great_job) := ⟨rfl, rfl, rfl, by decide +kernel, rfl, by decide +kernel, by decide +kernel⟩
abbrev s_law_drawn_names : Stmt := top 93
abbrev n_law_drawn_names : List Str := ["_law_pot", "_law_many", "_law_letters", "_law_found", "_law_turn", "_law_name", "_law_place", "_law_again"]
abbrev p_law_drawn_names : List Str := ["_law_pot", "_law_many"]
theorem sc_law_drawn_names : FnScope n_law_drawn_names p_law_drawn_names (defScope s_law_drawn_names) := ⟨rfl, rfl, rfl, by decide +kernel, rfl, by decide +kernel, by decide +kernel⟩
abbrev s_law_drawn_row : Stmt := top 94
abbrev n_law_drawn_row : List Str := ["_law_pot", "_law_job", "_law_found", "_law_left", "_law_held", "_law_turn", "_law_some", "_law_choice"]
abbrev p_law_drawn_row : List Str := ["_law_pot", "_law_job"]
theorem sc_law_drawn_row : FnScope n_law_drawn_row p_law_drawn_row (defScope s_law_drawn_row) := ⟨rfl, rfl, rfl, by decide +kernel, rfl, by decide +kernel, by decide +kernel⟩
abbrev s_law_mix : Stmt := top 95
abbrev n_law_mix : List Str := ["_law_pot", "_law_rows", "_law_places", "_law_found", "_law_turn", "_law_free", "_law_at", "_law_row"]
abbrev p_law_mix : List Str := ["_law_pot", "_law_rows"]
theorem sc_law_mix : FnScope n_law_mix p_law_mix (defScope s_law_mix) := ⟨rfl, rfl, rfl, by decide +kernel, rfl, by decide +kernel, by decide +kernel⟩
abbrev s_law_led : Stmt := top 96
abbrev n_law_led : List Str := ["_law_limit", "_law_names", "_law_jobs", "_law_order", "_law_keeper", "_law_top", "_law_name", "_law_job", "_law_at", "_law_choice", "_law_need"]
abbrev p_law_led : List Str := ["_law_limit", "_law_names", "_law_jobs", "_law_order"]
theorem sc_law_led : FnScope n_law_led p_law_led (defScope s_law_led) := ⟨rfl, rfl, rfl, by decide +kernel, rfl, by decide +kernel, by decide +kernel⟩
abbrev s_law : Stmt := top 97
abbrev n_law : List Str := ["_law_script", "_law_k", "_law_pot", "_law_names", "_law_jobs", "_law_name", "_law_rows", "_law_plain", "_law_at", "_law_row", "_law_mixed", "_law_first", "_law_second", "_law_again", "_law_job", "_law_choice", "_law_found", "_law_left", "_law_held"]
abbrev p_law : List Str := ["_law_script"]
theorem sc_law : FnScope n_law p_law (defScope s_law) := ⟨rfl, rfl, rfl, by decide +kernel, rfl, by decide +kernel, by decide +kernel⟩
abbrev s_Keeper___init : Stmt := inClass (top 85) 0
abbrev n_Keeper___init : List Str := ["self", "capacity"]
abbrev p_Keeper___init : List Str := ["self", "capacity"]
theorem sc_Keeper___init : FnScope n_Keeper___init p_Keeper___init (defScope s_Keeper___init) := ⟨rfl, rfl, rfl, by decide +kernel, rfl, by decide +kernel, by decide +kernel⟩
abbrev s_Keeper_usage : Stmt := inClass (top 85) 2
abbrev n_Keeper_usage : List Str := ["self"]
abbrev p_Keeper_usage : List Str := ["self"]
theorem sc_Keeper_usage : FnScope n_Keeper_usage p_Keeper_usage (defScope s_Keeper_usage) := ⟨rfl, rfl, rfl, by decide +kernel, rfl, by decide +kernel, by decide +kernel⟩
abbrev s_Keeper_need : Stmt := inClass (top 85) 3
abbrev n_Keeper_need : List Str := ["self"]
abbrev p_Keeper_need : List Str := ["self"]
theorem sc_Keeper_need : FnScope n_Keeper_need p_Keeper_need (defScope s_Keeper_need) := ⟨rfl, rfl, rfl, by decide +kernel, rfl, by decide +kernel, by decide +kernel⟩
abbrev s_Keeper_check_known : Stmt := inClass (top 85) 5
abbrev n_Keeper_check_known : List Str := ["self", "name"]
abbrev p_Keeper_check_known : List Str := ["self", "name"]
theorem sc_Keeper_check_known : FnScope n_Keeper_check_known p_Keeper_check_known (defScope s_Keeper_check_known) := ⟨rfl, rfl, rfl, by decide +kernel, rfl, by decide +kernel, by decide +kernel⟩
abbrev s_Keeper_remaining : Stmt := inClass (top 85) 6
abbrev n_Keeper_remaining : List Str := ["self", "name"]
abbrev p_Keeper_remaining : List Str := ["self", "name"]
theorem sc_Keeper_remaining : FnScope n_Keeper_remaining p_Keeper_remaining (defScope s_Keeper_remaining) := ⟨rfl, rfl, rfl, by decide +kernel, rfl, by decide +kernel, by decide +kernel⟩
abbrev s_Keeper_change : Stmt := inClass (top 85) 8
abbrev n_Keeper_change : List Str := ["self", "operation", "capacity", "jobs"]
abbrev p_Keeper_change : List Str := ["self", "operation", "capacity", "jobs"]
theorem sc_Keeper_change : FnScope n_Keeper_change p_Keeper_change (defScope s_Keeper_change) := ⟨rfl, rfl, rfl, by decide +kernel, rfl, by decide +kernel, by decide +kernel⟩
abbrev s_Keeper_admit : Stmt := inClass (top 85) 9
abbrev n_Keeper_admit : List Str := ["self", "name", "job", "jobs"]
abbrev p_Keeper_admit : List Str := ["self", "name", "job"]
theorem sc_Keeper_admit : FnScope n_Keeper_admit p_Keeper_admit (defScope s_Keeper_admit) := ⟨rfl, rfl, rfl, by decide +kernel, rfl, by decide +kernel, by decide +kernel⟩
abbrev s_Keeper_after : Stmt := inClass (top 85) 10
abbrev n_Keeper_after : List Str := ["self", "name", "choice", "jobs"]
abbrev p_Keeper_after : List Str := ["self", "name", "choice"]
theorem sc_Keeper_after : FnScope n_Keeper_after p_Keeper_after (defScope s_Keeper_after) := ⟨rfl, rfl, rfl, by decide +kernel, rfl, by decide +kernel, by decide +kernel⟩
abbrev s_Keeper_grant : Stmt := inClass (top 85) 11
abbrev n_Keeper_grant : List Str := ["self", "name", "choice", "jobs", "step"]
abbrev p_Keeper_grant : List Str := ["self", "name", "choice"]
theorem sc_Keeper_grant : FnScope n_Keeper_grant p_Keeper_grant (defScope s_Keeper_grant) := ⟨rfl, rfl, rfl, by decide +kernel, rfl, by decide +kernel, by decide +kernel⟩
abbrev s_Keeper___eq : Stmt := inClass (top 85) 23
abbrev n_Keeper___eq : List Str := ["self", "other"]
abbrev p_Keeper___eq : List Str := ["self", "other"]
theorem sc_Keeper___eq : FnScope n_Keeper___eq p_Keeper___eq (defScope s_Keeper___eq) := ⟨rfl, rfl, rfl, by decide +kernel, rfl, by decide +kernel, by decide +kernel⟩
/-- what the top has left -/
structure Tx (K : PySem.W.Frag) (mg : Str → Option Value) : Prop where
  f_is_integer : FnAt K mg "is_integer" s_is_integer
  f_is_between : FnAt K mg "is_between" s_is_between
  f_is_number : FnAt K mg "is_number" s_is_number
  f_is_node : FnAt K mg "is_node" s_is_node
  f_measured : FnAt K mg "measured" s_measured
  f_measured_parts : FnAt K mg "measured_parts" s_measured_parts
  f_measured_multiple : FnAt K mg "measured_multiple" s_measured_multiple
  f_is_job : FnAt K mg "is_job" s_is_job
  f_check_job : FnAt K mg "check_job" s_check_job
  f_step_count_by : FnAt K mg "step_count_by" s_step_count_by
  f_grouped : FnAt K mg "grouped" s_grouped
  f_tidy_parts : FnAt K mg "tidy_parts" s_tidy_parts
  f_tidy_by : FnAt K mg "tidy_by" s_tidy_by
  f_as_job : FnAt K mg "as_job" s_as_job
  f_descending : FnAt K mg "descending" s_descending
  f_moved : FnAt K mg "moved" s_moved
  f_step_profile_by : FnAt K mg "step_profile_by" s_step_profile_by
  f_start_behind : FnAt K mg "start_behind" s_start_behind
  f_end_behind : FnAt K mg "end_behind" s_end_behind
  f_two_profiles_by : FnAt K mg "two_profiles_by" s_two_profiles_by
  f_seq_profiles_by : FnAt K mg "seq_profiles_by" s_seq_profiles_by
  f_next_drop : FnAt K mg "next_drop" s_next_drop
  f_joint : FnAt K mg "joint" s_joint
  f_peak_beside : FnAt K mg "peak_beside" s_peak_beside
  f_par_profiles_by : FnAt K mg "par_profiles_by" s_par_profiles_by
  f_rounds_start : FnAt K mg "rounds_start" s_rounds_start
  f_repeat_profile_by : FnAt K mg "repeat_profile_by" s_repeat_profile_by
  f_copies_start : FnAt K mg "copies_start" s_copies_start
  f_copies_profile_by : FnAt K mg "copies_profile_by" s_copies_profile_by
  f_profile_by : FnAt K mg "profile_by" s_profile_by
  f_least_peak : FnAt K mg "least_peak" s_least_peak
  f_inner_at : FnAt K mg "inner_at" s_inner_at
  f_step_by : FnAt K mg "step_by" s_step_by
  f_is_address_by : FnAt K mg "is_address_by" s_is_address_by
  f_step_value : FnAt K mg "step_value" s_step_value
  f_is_name : FnAt K mg "is_name" s_is_name
  f_choices_by : FnAt K mg "choices_by" s_choices_by
  f_is_choice_by : FnAt K mg "is_choice_by" s_is_choice_by
  f_check_choice : FnAt K mg "check_choice" s_check_choice
  f_left_by : FnAt K mg "left_by" s_left_by
  f_remainder_by : FnAt K mg "remainder_by" s_remainder_by
  f_choices : FnAt K mg "choices" s_choices
  f_do_step : FnAt K mg "do_step" s_do_step
  f_check_limit : FnAt K mg "check_limit" s_check_limit
  f_joint_of : FnAt K mg "joint_of" s_joint_of
  f_usage_in : FnAt K mg "usage_in" s_usage_in
  f_need_in : FnAt K mg "need_in" s_need_in
  f_check_joint : FnAt K mg "check_joint" s_check_joint
  f_check_safe : FnAt K mg "check_safe" s_check_safe
  f_stepped : FnAt K mg "stepped" s_stepped
  f_law_begun : FnAt K mg "_law_begun" s_law_begun
  f_law_draw : FnAt K mg "_law_draw" s_law_draw
  f_law_great : FnAt K mg "_law_great" s_law_great
  f_law_drawn_step : FnAt K mg "_law_drawn_step" s_law_drawn_step
  f_law_drawn_job : FnAt K mg "_law_drawn_job" s_law_drawn_job
  f_law_great_job : FnAt K mg "_law_great_job" s_law_great_job
  f_law_drawn_names : FnAt K mg "_law_drawn_names" s_law_drawn_names
  f_law_drawn_row : FnAt K mg "_law_drawn_row" s_law_drawn_row
  f_law_mix : FnAt K mg "_law_mix" s_law_mix
  f_law_led : FnAt K mg "_law_led" s_law_led
  f_law : FnAt K mg "law" s_law
  b_isinstance : mg "isinstance" = none
  b_int : mg "int" = none
  b_bool : mg "bool" = none
  b_tuple : mg "tuple" = none
  b_str : mg "str" = none
  b_len : mg "len" = none
  b_sum : mg "sum" = none
  b_sorted : mg "sorted" = none
  b_max : mg "max" = none
  b_min : mg "min" = none
  b_enumerate : mg "enumerate" = none
  b_zip : mg "zip" = none
  b_range : mg "range" = none
  b_all : mg "all" = none
  b_abs : mg "abs" = none
  b_dict : mg "dict" = none
  c_MAX_INTEGER : ∃ t, mg "MAX_INTEGER" = some (.int 9999999999999999999999999999999999999999999999999999999999999 t)
  c_MAX_STEP : ∃ t, mg "MAX_STEP" = some (.int 1000000000000000000000000000000 t)
  c_MAX_COUNT : ∃ t, mg "MAX_COUNT" = some (.int 1000000000000000000000000000000 t)
  c_MAX_PARTS : ∃ t, mg "MAX_PARTS" = some (.int 400 t)
  c_MAX_NODES : ∃ t, mg "MAX_NODES" = some (.int 400 t)
  c_MAX_DEPTH : ∃ t, mg "MAX_DEPTH" = some (.int 13 t)
  c_MAX_JOBS : ∃ t, mg "MAX_JOBS" = some (.int 20 t)
  c_MAX_LETTERS : ∃ t, mg "MAX_LETTERS" = some (.int 8 t)
  c_LETTERS : ∃ t, mg "LETTERS" = some (.str "abcdefghijklmnopqrstuvwxyz" t)
  c_GROUPS : mg "GROUPS" = some (.ref (He.ga K "GROUPS"))
  k_GROUPS : KTup K (.ref (He.ga K "GROUPS")) (.tuple [.str "seq", .str "par"])
  c_MULTIPLES : mg "MULTIPLES" = some (.ref (He.ga K "MULTIPLES"))
  k_MULTIPLES : KTup K (.ref (He.ga K "MULTIPLES")) (.tuple [.str "repeat", .str "copies"])
  c_EMPTY_jobs : mg "EMPTY_jobs" = some (.ref (He.ga K "EMPTY_jobs"))
  k_EMPTY_jobs : KTup K (.ref (He.ga K "EMPTY_jobs")) (.tuple [.str "seq", .tuple []])
  c_EMPTY_basic : mg "EMPTY_basic" = some (.ref (He.ga K "EMPTY_basic"))
  k_EMPTY_basic : KTup K (.ref (He.ga K "EMPTY_basic")) (.tuple [.int 0, .int 0, .tuple [.tuple [.int 0, .int 0]], .tuple [.tuple [.int 0, .int 0]]])
end RP
end
section
set_option maxHeartbeats 2000000
namespace RP
open PySem

inductive Job where
  | step (i : Int)
  | grp (p : Bool) (js : List Job)
  | mul (c : Bool) (n : Nat) (j : Job)
def gw (p : Bool) : Str := if p then "par" else "seq"
def mw (c : Bool) : Str := if c then "copies" else "repeat"
mutual
def Job.data : Job → PyData
  | .step i => .int i
  | .grp p js => .tuple [.str (gw p), .tuple (Job.datas js)]
  | .mul c n j => .tuple [.str (mw c), .int (n : Int), Job.data j]
def Job.datas : List Job → List PyData
  | [] => []
  | j :: js => Job.data j :: Job.datas js
end
theorem datas_map : ∀ js : List Job, Job.datas js = js.map Job.data
  | [] => rfl
  | j :: js => by rw [Job.datas, datas_map js]; rfl
/-- induction over jobs -/
theorem Job.ind {P : Job → Prop} (h1 : ∀ i, P (.step i)) (h2 : ∀ p js, (∀ j ∈ js, P j) → P (.grp p js)) (h3 : ∀ c n j, P j → P (.mul c n j)) : ∀ j, P j
  | .step i => h1 i
  | .grp p js => h2 p js fun j hj => Job.ind h1 h2 h3 j
  | .mul c n j => h3 c n j (Job.ind h1 h2 h3 j)
mutual
def Job.eqb : Job → Job → Bool
  | .step i, .step k => i == k
  | .grp p js, .grp q ks => p == q && Job.eqbs js ks
  | .mul c n j, .mul d m k => c == d && n == m && Job.eqb j k
  | _, _ => false
def Job.eqbs : List Job → List Job → Bool
  | [], [] => true
  | j :: js, k :: ks => Job.eqb j k && Job.eqbs js ks
  | _, _ => false
end
theorem eqbs_of : ∀ {js ks : List Job}, (∀ j ∈ js, ∀ k, Job.eqb j k = true ↔ j = k) → (Job.eqbs js ks = true ↔ js = ks)
  | [], [], _ => by simp [Job.eqbs]
  | [], _ :: _, _ => by simp [Job.eqbs]
  | _ :: _, [], _ => by simp [Job.eqbs]
  | j :: js, k :: ks, h => by
    have h1 := h j List.mem_cons_self k
    have h2 := eqbs_of (js := js) (ks := ks) fun x hx => h x (List.mem_cons_of_mem _ hx)
    simp only [Job.eqbs, Bool.and_eq_true, h1, h2, List.cons.injEq]
theorem eqb_iff : ∀ j k : Job, Job.eqb j k = true ↔ j = k := by
  intro j
  induction j using Job.ind with
  | h1 i => intro k; cases k <;> simp [Job.eqb]
  | h2 p js ih =>
    intro k
    cases k with
    | grp q ks => simp only [Job.eqb, Bool.and_eq_true, eqbs_of ih, beq_iff_eq, Job.grp.injEq]
    | _ => simp [Job.eqb]
  | h3 c n j ih =>
    intro k
    cases k with
    | mul d m k => simp only [Job.eqb, Bool.and_eq_true, ih, beq_iff_eq, Job.mul.injEq, and_assoc]
    | _ => simp [Job.eqb]
instance : DecidableEq Job := fun j k => decidable_of_iff _ (eqb_iff j k)
/-! the data's own equality -/
theorem word_eq (a b : Str) : (a == b) = decide (a = b) := by
  by_cases h : a = b
  · subst h
    simp
  · simp [h]
theorem gw_inj {p q : Bool} : decide (gw p = gw q) = (p == q) := by cases p <;> cases q <;> decide
theorem mw_inj {p q : Bool} : decide (mw p = mw q) = (p == q) := by cases p <;> cases q <;> decide
theorem eqv_datas : ∀ {js ks : List Job}, (∀ j ∈ js, ∀ k, PyData.eqv j.data k.data = Job.eqb j k) → PyData.eqvAll (Job.datas js) (Job.datas ks) = Job.eqbs js ks
  | [], [], _ => by simp [Job.datas, Job.eqbs, PyData.eqvAll]
  | [], _ :: _, _ => by simp [Job.datas, Job.eqbs, PyData.eqvAll]
  | _ :: _, [], _ => by simp [Job.datas, Job.eqbs, PyData.eqvAll]
  | j :: js, k :: ks, h => by
    have h1 := h j List.mem_cons_self k
    have h2 := eqv_datas (js := js) (ks := ks) fun x hx => h x (List.mem_cons_of_mem _ hx)
    simp only [Job.datas, PyData.eqvAll, Job.eqbs, h1, h2]
theorem eqv_data : ∀ j k : Job, PyData.eqv j.data k.data = Job.eqb j k := by
  intro j
  induction j using Job.ind with
  | h1 i => intro k; cases k <;> simp [Job.data, Job.eqb, PyData.eqv]
  | h2 p js ih =>
    intro k
    cases k with
    | grp q ks =>
      have e : PyData.eqv (Job.grp p js).data (Job.grp q ks).data = ((gw p == gw q) && (PyData.eqvAll (Job.datas js) (Job.datas ks) && true)) := by simp only [Job.data, PyData.eqv, PyData.eqvAll]
      rw [e, eqv_datas ih, word_eq, gw_inj, Bool.and_true]
      rfl
    | step i => simp [Job.data, Job.eqb, PyData.eqv]
    | mul d m k => simp [Job.data, Job.eqb, PyData.eqv, PyData.eqvAll]
  | h3 c n j ih =>
    intro k
    cases k with
    | mul d m k =>
      have e : PyData.eqv (Job.mul c n j).data (Job.mul d m k).data = ((mw c == mw d) && (((n : Int) == (m : Int)) && (PyData.eqv j.data k.data && true))) := by simp only [Job.data, PyData.eqv, PyData.eqvAll]
      rw [e, ih, word_eq, mw_inj, Bool.and_true]
      have e2 : ((n : Int) == (m : Int)) = (n == m) := by
        by_cases h : n = m
        · subst h; simp
        · have h2 : ¬ (n : Int) = (m : Int) := by omega
          rw [beq_eq_false_iff_ne.mpr h2, beq_eq_false_iff_ne.mpr h]
      rw [e2, ← Bool.and_assoc]
      rfl
    | step i => simp [Job.data, Job.eqb, PyData.eqv]
    | grp q ks => simp [Job.data, Job.eqb, PyData.eqv, PyData.eqvAll]
theorem eqv_job (j k : Job) : PyData.eqv j.data k.data = decide (j = k) := by
  rw [eqv_data]
  by_cases h : j = k
  · rw [decide_eq_true h]; exact (eqb_iff j k).mpr h
  · rw [decide_eq_false h]
    cases e : Job.eqb j k with
    | false => rfl
    | true => exact absurd ((eqb_iff j k).mp e) h
/-! sizes -/
mutual
def Job.depth : Job → Nat
  | .step _ => 1
  | .grp _ js => 1 + Job.depths js
  | .mul _ _ j => 1 + Job.depth j
def Job.depths : List Job → Nat
  | [] => 0
  | j :: js => max (Job.depth j) (Job.depths js)
end
mutual
def Job.nodes : Job → Nat
  | .step _ => 1
  | .grp _ js => 1 + Job.nodesL js
  | .mul _ _ j => 1 + Job.nodes j
def Job.nodesL : List Job → Nat
  | [] => 0
  | j :: js => Job.nodes j + Job.nodesL js
end
mutual
def Job.steps : Job → Nat
  | .step _ => 1
  | .grp _ js => Job.stepsL js
  | .mul _ n j => n * Job.steps j
def Job.stepsL : List Job → Nat
  | [] => 0
  | j :: js => Job.steps j + Job.stepsL js
end
theorem stepsL_sum : ∀ js : List Job, Job.stepsL js = (js.map Job.steps).sum
  | [] => rfl
  | j :: js => by rw [Job.stepsL, stepsL_sum js]; rfl
theorem mem_depths {j : Job} : ∀ {js : List Job}, j ∈ js → j.depth ≤ Job.depths js
  | k :: js, h => by
    rw [Job.depths]
    rcases List.mem_cons.mp h with rfl | h
    · exact Nat.le_max_left _ _
    · exact Nat.le_trans (mem_depths h) (Nat.le_max_right _ _)
theorem mem_nodesL {j : Job} : ∀ {js : List Job}, j ∈ js → j.nodes ≤ Job.nodesL js
  | k :: js, h => by
    rw [Job.nodesL]
    rcases List.mem_cons.mp h with rfl | h
    · exact Nat.le_add_right _ _
    · exact Nat.le_trans (mem_nodesL h) (Nat.le_add_left _ _)
theorem mem_stepsL {j : Job} : ∀ {js : List Job}, j ∈ js → j.steps ≤ Job.stepsL js
  | k :: js, h => by
    rw [Job.stepsL]
    rcases List.mem_cons.mp h with rfl | h
    · exact Nat.le_add_right _ _
    · exact Nat.le_trans (mem_stepsL h) (Nat.le_add_left _ _)
theorem len_nodesL : ∀ js : List Job, js.length ≤ Job.nodesL js
  | [] => Nat.le_refl _
  | j :: js => by
    have h := len_nodesL js
    have h1 : 1 ≤ j.nodes := by cases j <;> simp [Job.nodes]
    rw [Job.nodesL, List.length_cons]
    omega
/-! what the data asks of the library's comparisons -/
theorem depth_datas : ∀ js : List Job, (∀ j ∈ js, PyData.depth j.data ≤ 2 * j.depth) → PyData.depthAll (Job.datas js) ≤ 2 * Job.depths js
  | [], _ => by simp [Job.datas, PyData.depthAll]
  | j :: js, h => by
    have h1 := h j List.mem_cons_self
    have h2 := depth_datas js fun k hk => h k (List.mem_cons_of_mem _ hk)
    simp only [Job.datas, PyData.depthAll, Job.depths]
    omega
theorem depth_data : ∀ j : Job, PyData.depth j.data ≤ 2 * j.depth := by
  intro j
  induction j using Job.ind with
  | h1 i => simp [Job.data, PyData.depth]
  | h2 p js ih =>
    have h := depth_datas js ih
    simp only [Job.data, PyData.depth, PyData.depthAll, Job.depth]
    omega
  | h3 c n j ih =>
    simp only [Job.data, PyData.depth, PyData.depthAll, Job.depth]
    omega
theorem lay_datas : ∀ js : List Job, (∀ j ∈ js, PyData.canLay0 j.data = true) → PyData.canLayAll0 (Job.datas js) = true
  | [], _ => by simp [Job.datas, PyData.canLayAll0]
  | j :: js, h => by
    have h1 := h j List.mem_cons_self
    have h2 := lay_datas js fun k hk => h k (List.mem_cons_of_mem _ hk)
    simp only [Job.datas, PyData.canLayAll0, h1, h2, Bool.and_self]
theorem lay_data : ∀ j : Job, PyData.canLay0 j.data = true := by
  intro j
  induction j using Job.ind with
  | h1 i => simp [Job.data, PyData.canLay0]
  | h2 p js ih =>
    have h := lay_datas js ih
    have e : PyData.strOk (gw p) = true := by cases p <;> decide +kernel
    simp only [Job.data, PyData.canLay0, PyData.canLayAll0, h, e, Bool.and_self]
  | h3 c n j ih =>
    have e : PyData.strOk (mw c) = true := by cases c <;> decide +kernel
    simp only [Job.data, PyData.canLay0, PyData.canLayAll0, ih, e, Bool.and_self]
theorem shaped_job {j : Job} (h : j.depth ≤ 30) : SeqAt.shaped j.data = true := by
  have h1 := depth_data j
  unfold SeqAt.shaped
  rw [lay_data, Bool.true_and]
  exact decide_eq_true (by omega)
theorem shaped_jobs {js : List Job} (h : ∀ j ∈ js, j.depth ≤ 30) : SeqAt.shaped (.list (js.map Job.data)) = true := by
  rw [← datas_map]
  have h1 := lay_datas js fun j _ => lay_data j
  have h2 : Job.depths js ≤ 30 := by
    clear h1
    induction js with
    | nil => simp [Job.depths]
    | cons j js ih =>
      rw [Job.depths]
      exact Nat.max_le.mpr ⟨h j List.mem_cons_self, ih fun k hk => h k (List.mem_cons_of_mem _ hk)⟩
  have h3 := depth_datas js fun j _ => depth_data j
  unfold SeqAt.shaped
  have e1 : PyData.canLay0 (.list (Job.datas js)) = true := by simp only [PyData.canLay0, h1]
  rw [e1, Bool.true_and]
  refine decide_eq_true ?_
  simp only [PyData.depth]
  omega
/-- the empty job -/
abbrev Job.nil : Job := .grp false []
theorem data_nil : Job.nil.data = .tuple [.str "seq", .tuple []] := rfl
end RP
end
section
set_option maxHeartbeats 4000000
namespace RP
open PySem PySem.Spec PyProof.Rows L2
section
variable {P : Program} {w : World} {K : PySem.W.Frag} {mg : Str → Option Value} {base : Heap}
/-! ### kinds of data -/
def tyD : PyData → String
  | .none => "NoneType"
  | .bool _ => "bool"
  | .int _ => "int"
  | .str _ => "str"
  | _ => "tuple"
theorem dt_ty {H : Hp} {v : V} {x : PyData} (h : Dt K H v x) : TyX K H v (.type (tyD x)) := by
  cases h with
  | non => exact .base .non
  | bl b => exact .base (.bl b)
  | int i => exact .base (.int i)
  | str z => exact .base (.str z)
  | tup t _ =>
    rcases t with t | ⟨o, its, n, e, c, _⟩
    · exact .base (.tup t)
    · exact .kTuple e c
theorem cvd_isi {x : PyData} {n : String} {b : Bool} (h : kitB (tyD x) n = some b) : CvD K (rIsi K) [.d x, .t n] (.d (.bool b)) := fun H vs Q a q => by
  match vs, a with
  | [v, u], ⟨h1, h2, _⟩ =>
    have e : u = .ty n := h2
    subst e
    exact ⟨v, .ty n, _, _, b, rfl, .ty n, dt_ty h1, kit_ty h, q _ H (Same.refl H) (.bl _)⟩
theorem sem_isi {Γ : List Sl} {te : TE} {x : PyData} {n m : String} {b : Bool} (hi : Sem K Γ te (.d x)) (e : tyD x = m) (h : kitB m n = some b) : Sem K Γ (tCB (rIsi K) (tCons te (tCons (tC (.ty n)) tNil))) (.d (.bool b)) :=
  sem_cb (sema_cons hi (sema_cons sem_ty sema_nil)) (cvd_isi (by rw [e]; exact h))
theorem sem_isiI {Γ : List Sl} {te : TE} {i : Int} {n : String} {b : Bool} (hi : Sem K Γ te (.d (.int i))) (h : kitB "int" n = some b) : Sem K Γ (tCB (rIsi K) (tCons te (tCons (tC (.ty n)) tNil))) (.d (.bool b)) := sem_isi hi rfl h
theorem sem_isiT {Γ : List Sl} {te : TE} {ds : List PyData} {n : String} {b : Bool} (hi : Sem K Γ te (.d (.tuple ds))) (h : kitB "tuple" n = some b) : Sem K Γ (tCB (rIsi K) (tCons te (tCons (tC (.ty n)) tNil))) (.d (.bool b)) := sem_isi hi rfl h
theorem sem_isiS {Γ : List Sl} {te : TE} {z : Str} {n : String} {b : Bool} (hi : Sem K Γ te (.d (.str z))) (h : kitB "str" n = some b) : Sem K Γ (tCB (rIsi K) (tCons te (tCons (tC (.ty n)) tNil))) (.d (.bool b)) := sem_isi hi rfl h
/-! ### is_integer, is_between, is_number -/
def pr_is_integer : List Rk → Rk → Prop := fun rs r => ∃ x, rs = [.d x] ∧ ((∃ i, x = .int i ∧ r = .d (.bool true)) ∨ ((∃ ds, x = .tuple ds) ∧ r = .d (.bool false)))
theorem w_is_integer (T : Tx K mg) : Df P w K mg base CX0 1 "is_integer" p_is_integer (spF K pr_is_integer) := by
  refine df_sem (N := n_is_integer) (k := 0) T.f_is_integer (fun _ _ _ _ _ _ us hl => match us, hl with | [_], _ => rfl) sc_is_integer (fun rs r h => by obtain ⟨x, rfl, _⟩ := h; rfl) ?_
  intro rs r h f cdv A outer s H E hr
  refine ⟨_, (pss_one (ps_ret (pe_and (pe_callB call_isi rfl T.b_isinstance (by decide +kernel) (pa_cons (pv 0) (pa_cons (pe_bltn (v := .ty "int") (u := .type "int") rfl T.b_int (by decide +kernel) rfl) pa_nil))) (pe_one (pe_not (pe_callB call_isi rfl T.b_isinstance (by decide +kernel) (pa_cons (pv 0) (pa_cons (pe_bltn (v := .ty "bool") (u := .type "bool") rfl T.b_bool (by decide +kernel) rfl) pa_nil)))))))), ?_⟩
  obtain ⟨x, rfl, ⟨i, rfl, rfl⟩ | ⟨⟨ds, rfl⟩, rfl⟩⟩ := h
  · exact ⟨_, semb_ret (sem_and (sem_isiI (sem_var rfl) (b := true) (by decide +kernel)) fun _ => sem_not (sem_isiI (sem_var rfl) (b := false) (by decide +kernel))), .inl rfl⟩
  · exact ⟨_, semb_ret (sem_and (b := true) (sem_isiT (sem_var rfl) (b := false) (by decide +kernel)) fun z => by cases z), .inl rfl⟩
def pr_is_between : List Rk → Rk → Prop := fun rs r => ∃ x lo hi, rs = [.d x, .d (.int lo), .d (.int hi)] ∧ ((∃ i, x = .int i ∧ r = .d (.bool (decide (lo ≤ i) && decide (i ≤ hi)))) ∨ ((∃ ds, x = .tuple ds) ∧ r = .d (.bool false)))
theorem rvd_le {i j : Int} : RvD K (rI0 fun i j => .bl (decide (i ≤ j))) (.d (.int i)) (.d (.int j)) (.d (.bool (decide (i ≤ j)))) := rvd_I0 fun _ => .bl _
theorem rvd_lt {i j : Int} : RvD K (rI0 fun i j => .bl (decide (i < j))) (.d (.int i)) (.d (.int j)) (.d (.bool (decide (i < j)))) := rvd_I0 fun _ => .bl _
theorem rvd_gt {i j : Int} : RvD K (rI0 fun i j => .bl (decide (j < i))) (.d (.int i)) (.d (.int j)) (.d (.bool (decide (j < i)))) := rvd_I0 fun _ => .bl _
theorem rvd_ge {i j : Int} : RvD K (rI0 fun i j => .bl (decide (j ≤ i))) (.d (.int i)) (.d (.int j)) (.d (.bool (decide (j ≤ i)))) := rvd_I0 fun _ => .bl _
theorem rvd_add {i j : Int} : RvD K (rI0 fun i j => .int (i + j)) (.d (.int i)) (.d (.int j)) (.d (.int (i + j))) := rvd_I0 fun _ => .int _
theorem rvd_sub {i j : Int} : RvD K (rI0 fun i j => .int (i - j)) (.d (.int i)) (.d (.int j)) (.d (.int (i - j))) := rvd_I0 fun _ => .int _
theorem rvd_mul {i j : Int} (h : CMulW i j) : RvD K (rI CMulW fun i j => .int (i * j)) (.d (.int i)) (.d (.int j)) (.d (.int (i * j))) := rvd_I h fun _ => .int _
theorem rvd_le' {i j : Int} {b : Bool} (h : decide (i ≤ j) = b) : RvD K (rI0 fun i j => .bl (decide (i ≤ j))) (.d (.int i)) (.d (.int j)) (.d (.bool b)) := h ▸ rvd_le
theorem rvd_lt' {i j : Int} {b : Bool} (h : decide (i < j) = b) : RvD K (rI0 fun i j => .bl (decide (i < j))) (.d (.int i)) (.d (.int j)) (.d (.bool b)) := h ▸ rvd_lt
theorem rvd_gt' {i j : Int} {b : Bool} (h : decide (j < i) = b) : RvD K (rI0 fun i j => .bl (decide (j < i))) (.d (.int i)) (.d (.int j)) (.d (.bool b)) := h ▸ rvd_gt
theorem rvd_ge' {i j : Int} {b : Bool} (h : decide (j ≤ i) = b) : RvD K (rI0 fun i j => .bl (decide (j ≤ i))) (.d (.int i)) (.d (.int j)) (.d (.bool b)) := h ▸ rvd_ge
theorem rvd_eqI' {i j : Int} {b : Bool} (h : decide (i = j) = b) : RvD K rEq (.d (.int i)) (.d (.int j)) (.d (.bool b)) := h ▸ rvd_eqI
theorem rvd_eqS' {i j : Str} {b : Bool} (h : decide (i = j) = b) : RvD K rEq (.d (.str i)) (.d (.str j)) (.d (.bool b)) := h ▸ rvd_eqS
theorem rvd_eqD' {x y : PyData} {b : Bool} (hx : SeqAt.shaped x = true) (hy : SeqAt.shaped y = true) (h : PyData.eqv x y = b) : RvD K (rEqD K) (.d x) (.d y) (.d (.bool b)) := h ▸ rvd_eqD hx hy
theorem rvd_neD' {x y : PyData} {b : Bool} (hx : SeqAt.shaped x = true) (hy : SeqAt.shaped y = true) (h : (!PyData.eqv x y) = b) : RvD K (rNeD K) (.d x) (.d y) (.d (.bool b)) := h ▸ rvd_neD hx hy
theorem rvd_isN' {x : PyData} {b : Bool} (h : isNoneD x = b) : RvD K (fun x y H Q => y = .non ∧ Q (.bl (decide (x = .non))) H) (.d x) (.d .none) (.d (.bool b)) := h ▸ rvd_isN
theorem rvd_isnotN' {x : PyData} {b : Bool} (h : (!isNoneD x) = b) : RvD K (fun x y H Q => y = .non ∧ Q (.bl (!decide (x = .non))) H) (.d x) (.d .none) (.d (.bool b)) := h ▸ rvd_isnotN
theorem rvd_inW' {w : Str} {ws : List Str} {b : Bool} {ds : List PyData} (e : ds = ws.map PyData.str) (h : (ws.any fun z => z == w) = b) : RvD K (rIn K false) (.d (.str w)) (.d (.tuple ds)) (.d (.bool b)) := by
  subst e
  exact h ▸ rvd_inW
theorem rvd_niW' {w : Str} {ws : List Str} {b : Bool} {ds : List PyData} (e : ds = ws.map PyData.str) (h : (!ws.any fun z => z == w) = b) : RvD K (rIn K true) (.d (.str w)) (.d (.tuple ds)) (.d (.bool b)) := by
  subst e
  exact h ▸ rvd_niW
theorem sl_int {i j : Int} (h : i = j) : Sl.d (.int i) = Sl.d (.int j) := by rw [h]
theorem w_is_between (T : Tx K mg) : Df P w K mg base CX0 2 "is_between" p_is_between (spF K pr_is_between) := by
  have g_is_integer := w_is_integer (P := P) (w := w) (base := base) T
  refine df_sem (N := n_is_between) (k := 1) T.f_is_between (fun _ _ _ _ _ _ us hl => match us, hl with | [_, _, _], _ => rfl) sc_is_between (fun rs r h => by obtain ⟨x, lo, hi, rfl, _⟩ := h; rfl) ?_
  intro rs r h f cdv A outer s H E hr
  refine ⟨_, (pss_one (ps_ret (pe_and (pe_df g_is_integer hr (by decide) pass0 rfl (pa_cons (pv 0) pa_nil)) (pe_one (pe_chain op_le op_le (pv 1) (pv 0) (pv 2)))))), ?_⟩
  obtain ⟨x, lo, hi, rfl, ⟨i, rfl, rfl⟩ | ⟨⟨ds, rfl⟩, rfl⟩⟩ := h
  · exact ⟨_, semb_ret (sem_and (a := true) (sem_call (sema_cons (sem_var rfl) sema_nil) ⟨_, rfl, .inl ⟨_, rfl, rfl⟩⟩) fun _ => sem_chain (sem_var rfl) (sem_var rfl) (sem_var rfl) rvd_le rvd_le), .inl rfl⟩
  · exact ⟨_, semb_ret (sem_and (a := false) (b := true) (sem_call (sema_cons (sem_var rfl) sema_nil) ⟨_, rfl, .inr ⟨⟨_, rfl⟩, rfl⟩⟩) fun z => by cases z), .inl rfl⟩
def pr_is_node : List Rk → Rk → Prop := fun rs r => ∃ x, rs = [.d x] ∧ ((∃ i, x = .int i ∧ r = .d (.bool false)) ∨ ((∃ ds, x = .tuple ds) ∧ r = .d (.bool true)))
theorem w_is_node (T : Tx K mg) : Df P w K mg base CX0 1 "is_node" p_is_node (spF K pr_is_node) := by
  refine df_sem (N := n_is_node) (k := 0) T.f_is_node (fun _ _ _ _ _ _ us hl => match us, hl with | [_], _ => rfl) sc_is_node (fun rs r h => by obtain ⟨x, rfl, _⟩ := h; rfl) ?_
  intro rs r h f cdv A outer s H E hr
  refine ⟨_, (pss_one (ps_ret (pe_callB call_isi rfl T.b_isinstance (by decide +kernel) (pa_cons (pv 0) (pa_cons (pe_bltn (v := .ty "tuple") (u := .type "tuple") rfl T.b_tuple (by decide +kernel) rfl) pa_nil))))), ?_⟩
  obtain ⟨x, rfl, ⟨i, rfl, rfl⟩ | ⟨⟨ds, rfl⟩, rfl⟩⟩ := h
  · exact ⟨_, semb_ret (sem_isiI (sem_var rfl) (by decide +kernel)), .inl rfl⟩
  · exact ⟨_, semb_ret (sem_isiT (sem_var rfl) (by decide +kernel)), .inl rfl⟩
end
end RP
end
section
set_option maxHeartbeats 2000000
namespace RP
open PySem

/-- what a part gives to a sequence or to parallel parts -/
def flat1 (p : Bool) : Job → List Job
  | .grp q js => if q = p then js else if q = false ∧ js = [] then [] else [.grp q js]
  | x => [x]
def addG (x : Job) (n : Nat) : List (Job × Nat) → List (Job × Nat)
  | [] => [(x, n)]
  | (y, m) :: r => if y = x then (y, m + n) :: r else (y, m) :: addG x n r
def ofPart : Job → Job × Nat
  | .mul true n x => (x, n)
  | x => (x, 1)
def gather (js : List Job) : List (Job × Nat) := js.foldl (fun g j => addG (ofPart j).1 (ofPart j).2 g) []
def unPart (q : Job × Nat) : Job := if q.2 = 1 then q.1 else .mul true q.2 q.1
def grouped (js : List Job) : List Job := (gather js).map unPart
def close (p : Bool) : List Job → Job
  | [] => .nil
  | [x] => x
  | x :: y :: r => .grp p (x :: y :: r)
def tidyParts (p : Bool) (js : List Job) : Job := close p (if p then grouped (js.flatMap (flat1 p)) else js.flatMap (flat1 p))
def tidyMul (c : Bool) (n : Nat) (t : Job) : Job :=
  if n = 0 ∨ t = .nil then .nil else
    match t with
    | .mul d m k => if d = c then .mul c (n * m) k else if n = 1 then t else .mul c n t
    | _ => if n = 1 then t else .mul c n t
mutual
def Job.tidy : Job → Job
  | .step i => .step i
  | .grp p js => tidyParts p (Job.tidyL js)
  | .mul c n j => tidyMul c n j.tidy
def Job.tidyL : List Job → List Job
  | [] => []
  | j :: js => j.tidy :: Job.tidyL js
end
theorem tidyL_map : ∀ js : List Job, Job.tidyL js = js.map Job.tidy
  | [] => rfl
  | j :: js => by rw [Job.tidyL, tidyL_map js]; rfl
/-! the groups, as two lists -/
theorem addG_keys (x : Job) (n : Nat) : ∀ g : List (Job × Nat), (addG x n g).map (·.1) = if x ∈ g.map (·.1) then g.map (·.1) else g.map (·.1) ++ [x]
  | [] => by simp [addG]
  | (y, m) :: r => by
    unfold addG
    by_cases e : y = x
    · subst e
      simp
    · rw [if_neg e, List.map_cons, addG_keys x n r]
      by_cases h : x ∈ r.map (·.1)
      · rw [if_pos h, if_pos (by simp only [List.map_cons, List.mem_cons]; exact .inr h)]
        rfl
      · rw [if_neg h, if_neg (by simp only [List.map_cons, List.mem_cons]; rintro (z | z); exact e z.symm; exact h z)]
        rfl
theorem addG_at {x : Job} {n : Nat} : ∀ {g : List (Job × Nat)} {k : Nat}, (g.map (·.1))[k]? = some x → (∀ i, i < k → (g.map (·.1))[i]? ≠ some x) → ∃ m, (g.map (·.2))[k]? = some m ∧ (addG x n g).map (·.2) = (g.map (·.2)).set k (m + n)
  | [], k, h, _ => by simp at h
  | (y, m) :: r, 0, h, _ => by
    simp at h
    subst h
    exact ⟨m, rfl, by simp [addG]⟩
  | (y, m) :: r, k + 1, h, hn => by
    have e : y ≠ x := fun z => hn 0 (by omega) (by simp [z])
    obtain ⟨c, h1, h2⟩ := addG_at (x := x) (n := n) (g := r) (k := k) (by simpa using h) (fun i hi z => hn (i + 1) (by omega) (by simpa using z))
    refine ⟨c, by simpa using h1, ?_⟩
    unfold addG
    rw [if_neg e, List.map_cons, h2]
    rfl
theorem first_at {x : Job} : ∀ {l : List Job}, x ∈ l → ∃ k : Nat, l[k]? = some x ∧ ∀ i : Nat, i < k → l[i]? ≠ some x
  | [], h => by cases h
  | y :: r, h => by
    by_cases e : y = x
    · exact ⟨0, by simp [e], fun i hi => by omega⟩
    · obtain ⟨k, h1, h2⟩ := first_at (l := r) (by
        rcases List.mem_cons.mp h with z | z
        · exact absurd z.symm e
        · exact z)
      refine ⟨k + 1, by simpa using h1, fun i hi z => ?_⟩
      cases i with
      | zero => simp at z; exact e z
      | succ i => exact h2 i (by omega) (by simpa using z)
theorem addG_new {x : Job} {n : Nat} {g : List (Job × Nat)} (h : x ∉ g.map (·.1)) : addG x n g = g ++ [(x, n)] := by
  induction g with
  | nil => rfl
  | cons q r ih =>
    obtain ⟨y, m⟩ := q
    unfold addG
    have e : y ≠ x := fun z => h (by simp [z])
    rw [if_neg e, ih (fun z => h (by simp only [List.map_cons, List.mem_cons]; exact .inr z))]
    rfl
theorem addG_len (x : Job) (n : Nat) : ∀ g : List (Job × Nat), (addG x n g).length ≤ g.length + 1
  | [] => by simp [addG]
  | (y, m) :: r => by
    have ih := addG_len x n r
    unfold addG
    split
    · simp
    · simp only [List.length_cons]
      omega
theorem gather_take {js : List Job} {i : Nat} {j : Job} (h : js[i]? = some j) : gather (js.take (i + 1)) = addG (ofPart j).1 (ofPart j).2 (gather (js.take i)) := by
  unfold gather
  rw [List.take_add_one, h]
  simp [List.foldl_append]
theorem gather_len : ∀ (js : List Job) (g : List (Job × Nat)), (js.foldl (fun g j => addG (ofPart j).1 (ofPart j).2 g) g).length ≤ g.length + js.length
  | [], g => by simp
  | j :: js, g => by
    have h1 := gather_len js (addG (ofPart j).1 (ofPart j).2 g)
    have h2 := addG_len (ofPart j).1 (ofPart j).2 g
    simp only [List.foldl_cons, List.length_cons]
    omega
theorem gather_le (js : List Job) : (gather js).length ≤ js.length := by
  have h := gather_len js []
  unfold gather
  simpa using h
theorem ofPart_depth (j : Job) : (ofPart j).1.depth ≤ j.depth := by
  cases j with
  | step i => exact Nat.le_refl _
  | grp p js => exact Nat.le_refl _
  | mul c n j =>
    cases c with
    | true =>
      show j.depth ≤ (Job.mul true n j).depth
      rw [Job.depth]
      omega
    | false => exact Nat.le_refl _
/-- what stands in the groups came from the parts -/
theorem addG_mem {x : Job} {n : Nat} {q : Job × Nat} : ∀ {g : List (Job × Nat)}, q ∈ addG x n g → q.1 = x ∨ q.1 ∈ g.map (·.1)
  | [], h => by
    simp [addG] at h
    exact .inl (by rw [h])
  | (y, m) :: r, h => by
    unfold addG at h
    by_cases e : y = x
    · rw [if_pos e] at h
      rcases List.mem_cons.mp h with z | z
      · exact .inl (by rw [z]; exact e)
      · exact .inr (List.mem_cons_of_mem _ (List.mem_map_of_mem z))
    · rw [if_neg e] at h
      rcases List.mem_cons.mp h with z | z
      · exact .inr (by rw [z]; exact List.mem_cons_self)
      · rcases addG_mem z with u | u
        · exact .inl u
        · exact .inr (List.mem_cons_of_mem _ u)
theorem gather_mem {q : Job × Nat} : ∀ (js : List Job) (g : List (Job × Nat)), q ∈ js.foldl (fun g j => addG (ofPart j).1 (ofPart j).2 g) g → (∃ j ∈ js, q.1 = (ofPart j).1) ∨ q.1 ∈ g.map (·.1)
  | [], g, h => .inr (List.mem_map_of_mem h)
  | j :: js, g, h => by
    rw [List.foldl_cons] at h
    rcases gather_mem js _ h with ⟨k, hk, e⟩ | z
    · exact .inl ⟨k, List.mem_cons_of_mem _ hk, e⟩
    · obtain ⟨u, hu, eu⟩ := List.mem_map.mp z
      rcases addG_mem hu with v | v
      · exact .inl ⟨j, List.mem_cons_self, by rw [← eu]; exact v⟩
      · exact .inr (by rw [← eu]; exact v)
theorem gather_from {q : Job × Nat} {js : List Job} (h : q ∈ gather js) : ∃ j ∈ js, q.1 = (ofPart j).1 := by
  rcases gather_mem js [] h with z | z
  · exact z
  · cases z
end RP
end
section
set_option maxHeartbeats 4000000
namespace RP
open PySem PySem.Spec PyProof.Rows L2
section
open PySem.MeetsSeq PySem.SeqAt
set_option maxRecDepth 100000 in
theorem ext_tup (l b : Addr) (xs ys : Array Value) (n m : Nat) (dd : Option Addr) (sl : Array (Option Value)) (h0 : ¬(!xs.isEmpty && Builtin.List.listTooLong (xs.size + ys.size)) = true) (h1 : xs.size ≤ sizeLine) (h2 : xs.size + ys.size ≤ sizeLine + 1) :
    Meets (Builtin.«list.extend» ⟨[.ref l, .ref b], []⟩) (fun _ R s =>
      s.heap.get? l = some { cls := .type "list", dict := none, data := .seq xs n, slots := #[] } ∧
      s.heap.get? b = some { cls := .type "tuple", dict := dd, data := .seq ys m, slots := sl } ∧
      R (.ok (.ret Value.none)) { s with heap := s.heap.update l (Obj.mapSeq fun x => x ++ ys), toks := s.toks }) :=
  .of_wp fun prog w A R s h => by
    obtain ⟨hp, g, d, tk, os⟩ := s
    obtain ⟨hl, hb, h⟩ := h
    have f1 := AutoSeq1.idx_int
    have f2 := AutoSeq1.sub_tuple_tuple
    have f3 := AutoSeq1.sub_list_list
    have f4 := AutoSeq1.sub_tuple_list
    have f5 := AutoSeq1.sub_list_tuple
    have hz' : (xs ++ ys).size ≤ sizeLine + 1 := by
      rw [Array.size_append]
      exact h2
    wp_walk using (wpAny_updateSeq hl rfl (hz := h1) (_hz' := hz')), AutoSeq1.wpAny_loadPart' hl, AutoSeq1.wpAny_loadPart' hb
    exact ⟨_, rfl, h⟩
/-- xs.extend(a tuple) -/
def rExtT (K : PySem.W.Frag) : V → List V → Hp → VK → Prop := fun x vs H Q => ∃ l b xs zs, x = .ref l ∧ vs = [.ref b] ∧ H l = some (.lst xs) ∧ SqT K H b zs ∧ xs.length + zs.length ≤ sizeLine ∧ Q .non (upd H l (.lst (xs ++ zs)))
theorem mt_extendT {X : Cx} : MtM X "list.extend" (rExtT X.K) := by
  intro pins s σ H x vs v us Q I rx rv h
  obtain ⟨l, b, xs, zs, rfl, rfl, hH, hB, hz, q⟩ := h
  cases rx
  obtain ⟨u, rfl, ru⟩ := rv.one
  cases ru
  obtain ⟨z, its, n, r, hl, e⟩ := I.lstM hH
  obtain ⟨its2, r2, ⟨o2, e2, c2, n2, d2⟩, z2⟩ := I.tuple hB
  obtain ⟨oc, od, dt, osl⟩ := o2
  simp only at c2 d2
  subst c2 d2
  have hl2 := r2.length
  have hsz : its.toArray.size + its2.toArray.size ≤ sizeLine := by
    rw [List.size_toArray, List.size_toArray, ← hl2, ← hl]
    exact hz
  have hlong : ¬ (!its.toArray.isEmpty && Builtin.List.listTooLong (its.toArray.size + its2.toArray.size)) = true := by
    rw [notLongL hsz, Bool.and_false]
    exact Bool.false_ne_true
  refine call_meets F.slot_list_extend ⟨_, e, rfl⟩ F.entry_list_extend (F.args_list_extend_2 _ _)
    (ext_tup l b its.toArray its2.toArray n n2 od osl hlong (by omega) (by omega)) ⟨e, e2, ?_⟩
  refine ⟨.non, _, I.lset (its' := its ++ its2) hH e (by simp) (r.append r2) ?_, rfl, q⟩
  rw [List.length_append]
  exact hz
end
end RP
end
section
set_option maxHeartbeats 4000000
namespace RP
open PySem PySem.Spec PyProof.Rows L2
/-! short tactics of my own, by keys -/
local macro_rules | `(tactic| walk_at "rp op") => `(tactic| first
  | exact rvd_add | exact rvd_sub | exact rvd_lt | exact rvd_le | exact rvd_gt | exact rvd_ge
  | exact rvd_ixT rfl | exact rvd_ixL rfl | exact rvd_ixL' rfl
  | exact rvd_eqI | exact rvd_eqS | exact rvd_neI | exact rvd_isN | exact rvd_isnotN
  | exact rvd_inW | exact rvd_niW)
local macro_rules | `(tactic| walk_at "rp ex") => `(tactic| repeat' (first
  | exact sem_int | exact sem_str | exact sem_bl | exact sem_non | exact sem_ty
  | exact sem_var rfl | exact sem_varF rfl | exact sem_varL rfl
  | with_reducible refine sem_op ?_ ?_ (by walk_at "rp op")
  | with_reducible refine sem_op ?_ ?_ ?_
  | with_reducible exact sema_nil | with_reducible refine sema_cons ?_ ?_
  | with_reducible refine semt_B ?_ | with_reducible refine semt_T ?_ | with_reducible refine semt_not ?_
  | walk_at "rp op"))

/-- what a job's parts keep to -/
def maxN : Nat := 1000000000000000000000000000000
mutual
def Job.Good : Job → Prop
  | .step i => -(maxN : Int) ≤ i ∧ i ≤ (maxN : Int)
  | .grp _ js => Job.stepsL js ≤ maxN ∧ Job.GoodL js
  | .mul _ n j => n ≤ maxN ∧ n * Job.steps j ≤ maxN ∧ Job.Good j
def Job.GoodL : List Job → Prop
  | [] => True
  | j :: js => Job.Good j ∧ Job.GoodL js
end
theorem goodL_mem {j : Job} : ∀ {js : List Job}, Job.GoodL js → j ∈ js → j.Good
  | k :: js, h, hj => by
    rw [Job.GoodL] at h
    rcases List.mem_cons.mp hj with rfl | hj
    · exact h.1
    · exact goodL_mem h.2 hj
theorem good_steps {j : Job} (h : j.Good) : j.steps ≤ maxN := by
  cases j with
  | step i => exact (by decide +kernel : 1 ≤ maxN)
  | grp p js => rw [Job.Good] at h; exact h.1
  | mul c n j => rw [Job.Good] at h; exact h.2.1
section
variable {P : Program} {w : World} {K : PySem.W.Frag} {mg : Str → Option Value} {base : Heap}
def szD (j : Job) : PyData := .tuple [.int (j.nodes : Int), .int (j.steps : Int)]
def pr_measured (L : Nat) : List Rk → Rk → Prop := fun rs r => ∃ (j : Job) (d : Int), rs = [.d j.data, .d (.int d)] ∧ r = .d (szD j) ∧ j.depth ≤ L ∧ (j.depth : Int) ≤ d ∧ j.nodes ≤ 400 ∧ j.Good
def pr_measured_parts (L : Nat) : List Rk → Rk → Prop := fun rs r => ∃ (p : Bool) (js : List Job) (d : Int), rs = [.d (.tuple (Job.datas js)), .d (.int d)] ∧ r = .d (szD (.grp p js)) ∧ Job.depths js ≤ L ∧ (Job.depths js : Int) + 1 ≤ d ∧ (Job.grp p js).nodes ≤ 400 ∧ (Job.grp p js).Good
def pr_measured_multiple (L : Nat) : List Rk → Rk → Prop := fun rs r => ∃ (c : Bool) (n : Nat) (j : Job) (d : Int), rs = [.d (.int (n : Int)), .d j.data, .d (.int d)] ∧ r = .d (szD (.mul c n j)) ∧ j.depth ≤ L ∧ (j.depth : Int) + 1 ≤ d ∧ (Job.mul c n j).nodes ≤ 400 ∧ (Job.mul c n j).Good
theorem b_measured : ∀ (kV doc pm : Value) (an : Option Addr) (cdv ct : Value) (us : List Value), us.length = p_measured.length → bindArgs (PySem.W.fnOf "measured" "measured" (defArgs s_measured) (defBody s_measured) (defScope s_measured) .none kV doc pm an cdv ct) ⟨us, []⟩ = pure (p_measured.zip us) :=
  fun _ _ _ _ _ _ us hl => match us, hl with | [_, _], _ => rfl
theorem cvd_lenT {ds : List PyData} : CvD K (fun xs H Q => ∃ p ys, xs = [.ref p] ∧ (SqL K H p ys ∨ SqT K H p ys) ∧ Q (.int ys.length) H) [.d (.tuple ds)] (.d (.int (ds.length : Int))) := fun H vs Q a q => by
  match vs, a with
  | [v], ⟨h1, _⟩ =>
    obtain ⟨p, xs, rfl, ht, hl⟩ := Dt.isTup h1
    refine ⟨p, xs, rfl, .inr ht.sq, ?_⟩
    rw [hl.length]
    exact q _ H (Same.refl H) (.int _)
theorem cvd_lenL {ds : List PyData} : CvD K (fun xs H Q => ∃ p ys, xs = [.ref p] ∧ (SqL K H p ys ∨ SqT K H p ys) ∧ Q (.int ys.length) H) [.s ds] (.d (.int (ds.length : Int))) := fun H vs Q a q => by
  match vs, a with
  | [v], ⟨h1, _⟩ =>
    obtain ⟨p, xs, rfl, ht, hl⟩ := h1
    refine ⟨p, xs, rfl, .inl (SqL.of ht), ?_⟩
    rw [hl.length]
    exact q _ H (Same.refl H) (.int _)
theorem cvd_lenT' {ds : List PyData} {n : Int} (h : (ds.length : Int) = n) : CvD K (fun xs H Q => ∃ p ys, xs = [.ref p] ∧ (SqL K H p ys ∨ SqT K H p ys) ∧ Q (.int ys.length) H) [.d (.tuple ds)] (.d (.int n)) := h ▸ cvd_lenT
theorem datas_at {js : List Job} {i : Nat} {x : PyData} (h : (Job.datas js)[i]? = some x) : ∃ j, js[i]? = some j ∧ x = j.data := by
  rw [datas_map, List.getElem?_map] at h
  cases e : js[i]? with
  | none =>
    rw [e] at h
    cases h
  | some j =>
    rw [e] at h
    exact ⟨j, rfl, (Option.some.inj h).symm⟩
theorem datas_len (js : List Job) : (Job.datas js).length = js.length := by rw [datas_map, List.length_map]
theorem nodesL_take {j : Job} : ∀ {js : List Job} {i : Nat}, js[i]? = some j → Job.nodesL (js.take (i + 1)) = Job.nodesL (js.take i) + j.nodes
  | [], i, h => by simp at h
  | k :: js, 0, h => by
    simp at h
    subst h
    simp [Job.nodesL]
  | k :: js, i + 1, h => by
    have ih := nodesL_take (js := js) (i := i) (by simpa using h)
    simp only [List.take_succ_cons, Job.nodesL] at ih ⊢
    omega
theorem stepsL_take {j : Job} : ∀ {js : List Job} {i : Nat}, js[i]? = some j → Job.stepsL (js.take (i + 1)) = Job.stepsL (js.take i) + j.steps
  | [], i, h => by simp at h
  | k :: js, 0, h => by
    simp at h
    subst h
    simp [Job.stepsL]
  | k :: js, i + 1, h => by
    have ih := stepsL_take (js := js) (i := i) (by simpa using h)
    simp only [List.take_succ_cons, Job.stepsL] at ih ⊢
    omega
theorem nodesL_le (js : List Job) (i : Nat) : Job.nodesL (js.take i) ≤ Job.nodesL js := by
  induction js generalizing i with
  | nil => simp [Job.nodesL]
  | cons k js ih =>
    cases i with
    | zero => simp [Job.nodesL]
    | succ i =>
      have := ih i
      simp only [List.take_succ_cons, Job.nodesL]
      omega
theorem stepsL_le (js : List Job) (i : Nat) : Job.stepsL (js.take i) ≤ Job.stepsL js := by
  induction js generalizing i with
  | nil => simp [Job.stepsL]
  | cons k js ih =>
    cases i with
    | zero => simp [Job.stepsL]
    | succ i =>
      have := ih i
      simp only [List.take_succ_cons, Job.stepsL]
      omega
theorem in_groups (p : Bool) : ((["seq", "par"] : List Str).any fun z => z == gw p) = true := by cases p <;> decide +kernel
theorem in_groups_mw (c : Bool) : ((["seq", "par"] : List Str).any fun z => z == mw c) = false := by cases c <;> decide +kernel
theorem in_mults (c : Bool) : ((["repeat", "copies"] : List Str).any fun z => z == mw c) = true := by cases c <;> decide +kernel
theorem w_measured_parts (T : Tx K mg) {L : Nat} (g_measured : Df P w K mg base CX0 (2 * L + 3) "measured" p_measured (spF K (pr_measured L))) : Df P w K mg base CX0 (2 * L + 4) "measured_parts" p_measured_parts (spF K (pr_measured_parts L)) := by
  refine df_sem (N := n_measured_parts) (k := 2 * L + 3) T.f_measured_parts (fun _ _ _ _ _ _ us hl => match us, hl with | [_, _], _ => rfl) sc_measured_parts (fun rs r h => by obtain ⟨p, js, d, rfl, _⟩ := h; rfl) ?_
  intro rs r h f cdv A outer s H E hr
  refine ⟨_, (pss_cons (ps_if (PW.pt (pw_or (pt_not (pt_val (pe_callB call_isi rfl T.b_isinstance (by decide +kernel) (pa_cons (pv 0) (pa_cons (pe_bltn (v := .ty "tuple") (u := .type "tuple") rfl T.b_tuple (by decide +kernel) rfl) pa_nil))))) (pw_or1 (pt_cmpR op_gt (pe_callB call_len_seq rfl T.b_len (by decide +kernel) (pa_cons (pv 0) pa_nil)) (pe_gint rfl T.c_MAX_PARTS) (nomark _))))) (pss_one (ps_ret pe_non)) pss_nil)
    (pss_cons (ps_asg (pe_tup (pa_cons pe_int (pa_cons pe_int pa_nil))) (pg_tup rfl (pgs_cons (pg_name (i := 2) sc_measured_parts.nd rfl (Or.inl rfl)) (pgs_cons (pg_name (i := 3) sc_measured_parts.nd rfl (Or.inl rfl)) pgs_nil))))
    (pss_cons (ps_for PassesOwn.never rfl (pi_tup (pv 0)) (pg_name (i := 4) sc_measured_parts.nd rfl (Or.inl rfl)) (pss_cons (ps_set (i := 5) sc_measured_parts.nd rfl (Or.inl rfl) (pe_df g_measured hr (by omega) pass0 rfl (pa_cons (pv 4) (pa_cons (pe_op op_sub (pv 1) pe_int) pa_nil))))
    (pss_cons (ps_if (pt_cmpR op_isN (pv 5) pe_non (nomark _)) (pss_one (ps_ret pe_non)) pss_nil)
    (pss_cons (ps_par (i := 2) (j := 3) rfl sc_measured_parts.nd rfl rfl (by decide) rfl rfl (pa_cons (pe_op op_add (pv 2) (pe_ix ix_tup (pv 5) pe_int (fun _ _ => rfl))) (pa_cons (pe_op op_add (pv 3) (pe_ix ix_tup (pv 5) pe_int (fun _ _ => rfl))) pa_nil)) (by rfl))
    (pss_one (ps_if (PW.pt (pw_or (pt_cmpR op_gt (pv 2) (pe_gint rfl T.c_MAX_NODES) (nomark _)) (pw_or1 (pt_cmpR op_gt (pv 3) (pe_gint rfl T.c_MAX_COUNT) (nomark _))))) (pss_one (ps_ret pe_non)) pss_nil))))))
    (pss_one (ps_ret (pe_tup (pa_cons (pv 2) (pa_cons (pv 3) pa_nil)))))))), ?_⟩
  obtain ⟨p, js, d, rfl, rfl, hL, hd, hn, hg⟩ := h
  rw [Job.nodes] at hn
  rw [Job.Good] at hg
  have hlen := len_nodesL js
  let Γs : Nat → List Sl := fun i => [.d (.tuple (Job.datas js)), .d (.int d), .d (.int ((1 + Job.nodesL (js.take i) : Nat) : Int)), .d (.int ((Job.stepsL (js.take i) : Nat) : Int)), .un, .un]
  refine ⟨.rt (.d (szD (.grp p js))), ?_, .inl rfl⟩
  refine semb_seq (semb_if (b := false) (semt_or (a := false) (b := false) (semt_not (semt_B (sem_isiT (sem_var rfl) (b := true) (by decide +kernel)))) fun _ => (semt_T (sem_op (sem_cb (sema_cons (sem_var rfl) sema_nil) cvd_lenT) sem_int (rvd_gt' (decide_eq_false (by rw [datas_len]; omega)))))) (fun z => by cases z) fun _ => semb_next) ?_
  refine semb_seq (semb_asg (sem_tup (ds := [_, _]) (sema_cons sem_int (sema_cons sem_int sema_nil)) (by decide)) (semg_tup rfl (semgs_cons semg_name (semgs_cons semg_name semgs_nil)))) ?_
  refine semb_seq (Γ1 := Γs (Job.datas js).length) (semb_for (xs := Job.datas js) Γs (semi_tup (sem_var rfl)) fun i x hx => ?_) ?_
  · obtain ⟨j, hj, rfl⟩ := datas_at hx
    have hmem := List.mem_of_getElem? hj
    have hdj := mem_depths hmem
    have hnj := mem_nodesL hmem
    have h1 := nodesL_take hj
    have h2 := stepsL_take hj
    have h3 := nodesL_le js (i + 1)
    have h4 := stepsL_le js (i + 1)
    have h5 := hg.1
    unfold maxN at h5
    refine ⟨_, _, semg_name, .inl (SemB.weak (semb_seq (semb_set (sem_call (sema_cons (sem_var rfl) (sema_cons (sem_op (sem_var rfl) sem_int rvd_sub) sema_nil)) ⟨j, d - 1, rfl, rfl, by omega, by omega, by omega, goodL_mem hg.2 hmem⟩))
      (semb_seq (semb_if (b := false) (semt_T (sem_op (sem_var rfl) sem_non (rvd_isN' rfl))) (fun z => by cases z) fun _ => semb_next)
      (semb_seq (semb_par (sem_op (sem_var rfl) (sem_op (sem_var rfl) sem_int (rvd_ixT rfl)) rvd_add) (sem_op (sem_var rfl) (sem_op (sem_var rfl) sem_int (rvd_ixT rfl)) rvd_add) (by decide))
      (semb_if (b := false) (semt_or (a := false) (b := false) (semt_T (sem_op (sem_var rfl) sem_int (rvd_gt' (decide_eq_false (by omega))))) fun _ => semt_T (sem_op (sem_var rfl) sem_int (rvd_gt' (decide_eq_false (by omega))))) (fun z => by cases z) fun _ => semb_next)))) ?_)⟩
    exact .eq rfl (.eq rfl (.eq (sl_int (by rw [h1]; omega)) (.eq (sl_int (by rw [h2]; omega)) (.un (.un .nil)))))
  · have e1 : js.take (Job.datas js).length = js := by rw [datas_len, List.take_length]
    have e2 : szD (.grp p js) = .tuple [.int ((1 + Job.nodesL (js.take (Job.datas js).length) : Nat) : Int), .int ((Job.stepsL (js.take (Job.datas js).length) : Nat) : Int)] := by
      rw [e1]
      rfl
    rw [e2]
    exact semb_ret (sem_tup (ds := [_, _]) (sema_cons (sem_var rfl) (sema_cons (sem_var rfl) sema_nil)) (by simp))
theorem mulW_ok {i j : Int} (hi : i.natAbs < 2 ^ 1000) (hj : j.natAbs < 2 ^ 1000) : CMulW i j := wide_mul hi hj (by decide) (by decide) (by decide)
theorem lt1000 {i : Int} {n : Nat} (h : i.natAbs ≤ n) (hn : n ≤ maxN * maxN * maxN) : i.natAbs < 2 ^ 1000 := Nat.lt_of_le_of_lt (Nat.le_trans h hn) (by decide +kernel)
theorem w_measured_multiple (T : Tx K mg) {L : Nat} (g_measured : Df P w K mg base CX0 (2 * L + 3) "measured" p_measured (spF K (pr_measured L))) : Df P w K mg base CX0 (2 * L + 4) "measured_multiple" p_measured_multiple (spF K (pr_measured_multiple L)) := by
  have g_is_between := w_is_between (P := P) (w := w) (base := base) T
  refine df_sem (N := n_measured_multiple) (k := 2 * L + 3) T.f_measured_multiple (fun _ _ _ _ _ _ us hl => match us, hl with | [_, _, _], _ => rfl) sc_measured_multiple (fun rs r h => by obtain ⟨c, n, j, d, rfl, _⟩ := h; rfl) ?_
  intro rs r h f cdv A outer s H E hr
  refine ⟨_, (pss_cons (ps_if (pt_not (pt_val (pe_df g_is_between hr (by omega) pass0 rfl (pa_cons (pv 0) (pa_cons pe_int (pa_cons (pe_gint rfl T.c_MAX_COUNT) pa_nil)))))) (pss_one (ps_ret pe_non)) pss_nil)
    (pss_cons (ps_set (i := 3) sc_measured_multiple.nd rfl (Or.inl rfl) (pe_df g_measured hr (by omega) pass0 rfl (pa_cons (pv 1) (pa_cons (pe_op op_sub (pv 2) pe_int) pa_nil))))
    (pss_cons (ps_if (PW.pt (pw_or (pt_cmpR op_isN (pv 3) pe_non (nomark _)) (pw_or (pt_cmpR op_eq (pe_ix ix_tup (pv 3) pe_int (fun _ _ => rfl)) (pe_gint rfl T.c_MAX_NODES) (nomark _)) (pw_or1 (pt_cmpR op_gt (pe_op op_mulW (pv 0) (pe_ix ix_tup (pv 3) pe_int (fun _ _ => rfl))) (pe_gint rfl T.c_MAX_COUNT) (nomark _)))))) (pss_one (ps_ret pe_non)) pss_nil)
    (pss_one (ps_ret (pe_tup (pa_cons (pe_op op_add pe_int (pe_ix ix_tup (pv 3) pe_int (fun _ _ => rfl))) (pa_cons (pe_op op_mulW (pv 0) (pe_ix ix_tup (pv 3) pe_int (fun _ _ => rfl))) pa_nil)))))))), ?_⟩
  obtain ⟨c, n, j, d, rfl, rfl, hL, hd, hn, hg⟩ := h
  rw [Job.nodes] at hn
  rw [Job.Good] at hg
  obtain ⟨hg1, hg2, hg3⟩ := hg
  refine ⟨.rt (.d (szD (.mul c n j))), ?_, .inl rfl⟩
  have hg1' := hg1
  have hg2' := hg2
  unfold maxN at hg1' hg2'
  have em : (n : Int) * (j.steps : Int) = ((n * j.steps : Nat) : Int) := by rw [Int.natCast_mul]
  have hw : CMulW (n : Int) (j.steps : Int) := mulW_ok (lt1000 (n := maxN) (by omega) (by decide +kernel)) (lt1000 (n := maxN) (by have := good_steps hg3; omega) (by decide +kernel))
  refine semb_seq (semb_if (b := false) (semt_not (b := true) (semt_B (sem_call (sema_cons (sem_var rfl) (sema_cons sem_int (sema_cons sem_int sema_nil))) ⟨_, _, _, rfl, .inl ⟨_, rfl, by
      rw [decide_eq_true (show (0 : Int) ≤ (n : Int) by omega), decide_eq_true (show (n : Int) ≤ 1000000000000000000000000000000 by omega)]
      rfl⟩⟩))) (fun z => by cases z) fun _ => semb_next) ?_
  refine semb_seq (semb_set (sem_call (sema_cons (sem_var rfl) (sema_cons (sem_op (sem_var rfl) sem_int rvd_sub) sema_nil)) ⟨j, d - 1, rfl, rfl, by omega, by omega, by omega, hg3⟩)) ?_
  refine semb_seq (semb_if (b := false) (semt_or (a := false) (b := false) (semt_T (sem_op (sem_var rfl) sem_non (rvd_isN' rfl))) fun _ => semt_or (a := false) (b := false) (semt_T (sem_op (sem_op (sem_var rfl) sem_int (rvd_ixT rfl)) sem_int (rvd_eqI' (decide_eq_false (by omega))))) fun _ => semt_T (sem_op (sem_op (sem_var rfl) (sem_op (sem_var rfl) sem_int (rvd_ixT rfl)) (rvd_mul hw)) sem_int (rvd_gt' (decide_eq_false (by omega))))) (fun z => by cases z) fun _ => semb_next) ?_
  have e2 : szD (.mul c n j) = .tuple [.int (1 + (j.nodes : Int)), .int ((n : Int) * (j.steps : Int))] := by
    unfold szD
    rw [em, Job.nodes, Job.steps]
    congr 3
  rw [e2]
  exact semb_ret (sem_tup (ds := [_, _]) (sema_cons (sem_op sem_int (sem_op (sem_var rfl) sem_int (rvd_ixT rfl)) rvd_add) (sema_cons (sem_op (sem_var rfl) (sem_op (sem_var rfl) sem_int (rvd_ixT rfl)) (rvd_mul hw)) sema_nil)) (by simp))
theorem w_measured1 (T : Tx K mg) {L : Nat} (hL20 : L + 1 ≤ 20) (g_measured_parts : Df P w K mg base CX0 (2 * L + 4) "measured_parts" p_measured_parts (spF K (pr_measured_parts L)))
    (g_measured_multiple : Df P w K mg base CX0 (2 * L + 4) "measured_multiple" p_measured_multiple (spF K (pr_measured_multiple L))) : Df P w K mg base CX0 (2 * L + 5) "measured" p_measured (spF K (pr_measured (L + 1))) := by
  have g_is_between := w_is_between (P := P) (w := w) (base := base) T
  refine df_sem (N := n_measured) (k := 2 * L + 4) T.f_measured b_measured sc_measured (fun rs r h => by obtain ⟨j, d, rfl, _⟩ := h; rfl) ?_
  intro rs r h f cdv A outer s H E hr
  refine ⟨_, (pss_cons (ps_if (pt_cmpR op_eq (pv 1) pe_int (nomark _)) (pss_one (ps_ret pe_non)) pss_nil)
    (pss_cons (ps_if (pt_val (pe_df g_is_between hr (by omega) pass0 rfl (pa_cons (pv 0) (pa_cons (pe_op op_sub pe_int (pe_gint rfl T.c_MAX_STEP)) (pa_cons (pe_gint rfl T.c_MAX_STEP) pa_nil))))) (pss_one (ps_ret (pe_tup (pa_cons pe_int (pa_cons pe_int pa_nil))))) pss_nil)
    (pss_cons (ps_if (PW.pt (pw_or (pt_not (pt_val (pe_callB call_isi rfl T.b_isinstance (by decide +kernel) (pa_cons (pv 0) (pa_cons (pe_bltn (v := .ty "tuple") (u := .type "tuple") rfl T.b_tuple (by decide +kernel) rfl) pa_nil))))) (pw_or (pt_cmpR (op_eqD hr.units) (pv 0) (pe_tup pa_nil) (nomark _)) (pw_or1 (pt_not (pt_val (pe_callB call_isi rfl T.b_isinstance (by decide +kernel) (pa_cons (pe_ix ix_tup (pv 0) pe_int (fun _ _ => rfl)) (pa_cons (pe_bltn (v := .ty "str") (u := .type "str") rfl T.b_str (by decide +kernel) rfl) pa_nil))))))))) (pss_one (ps_ret pe_non)) pss_nil)
    (pss_cons (ps_if (PW.pt (pw_and (pt_cmpR op_in_seq (pe_ix ix_tup (pv 0) pe_int (fun _ _ => rfl)) (pe_gref rfl T.c_GROUPS) (by rfl)) (pw_and1 (pt_cmpR op_eq (pe_callB call_len_seq rfl T.b_len (by decide +kernel) (pa_cons (pv 0) pa_nil)) pe_int (nomark _))))) (pss_one (ps_ret (pe_df g_measured_parts hr (by omega) pass0 rfl (pa_cons (pe_ix ix_tup (pv 0) pe_int (fun _ _ => rfl)) (pa_cons (pv 1) pa_nil))))) pss_nil)
    (pss_cons (ps_if (PW.pt (pw_and (pt_cmpR op_in_seq (pe_ix ix_tup (pv 0) pe_int (fun _ _ => rfl)) (pe_gref rfl T.c_MULTIPLES) (by rfl)) (pw_and1 (pt_cmpR op_eq (pe_callB call_len_seq rfl T.b_len (by decide +kernel) (pa_cons (pv 0) pa_nil)) pe_int (nomark _))))) (pss_one (ps_ret (pe_df g_measured_multiple hr (by omega) pass0 rfl (pa_cons (pe_ix ix_tup (pv 0) pe_int (fun _ _ => rfl)) (pa_cons (pe_ix ix_tup (pv 0) pe_int (fun _ _ => rfl)) (pa_cons (pv 1) pa_nil)))))) pss_nil)
    (pss_one (ps_ret pe_non))))))), ?_⟩
  obtain ⟨j, d, rfl, rfl, hL, hd, hn, hg⟩ := h
  have hd1 : 1 ≤ j.depth := by cases j <;> simp [Job.depth]
  refine ⟨.rt (.d (szD j)), ?_, .inl rfl⟩
  refine semb_seq (semb_if (b := false) (semt_T (sem_op (sem_var rfl) sem_int (rvd_eqI' (decide_eq_false (by omega))))) (fun z => by cases z) fun _ => semb_next) ?_
  have hsh := shaped_job (j := j) (by omega)
  cases j with
  | step i =>
    rw [Job.Good] at hg
    unfold maxN at hg
    refine semb_seqR (semb_if (b := true) (semt_B (sem_call (sema_cons (sem_var rfl) (sema_cons (sem_op sem_int sem_int rvd_sub) (sema_cons sem_int sema_nil))) ⟨_, _, _, rfl, .inl ⟨_, rfl, by
      rw [decide_eq_true (show (0 : Int) - 1000000000000000000000000000000 ≤ i by omega), decide_eq_true (show i ≤ 1000000000000000000000000000000 by omega)]
      rfl⟩⟩)) (fun _ => semb_ret (sem_tup (ds := [.int 1, .int 1]) (sema_cons sem_int (sema_cons sem_int sema_nil)) (by decide))) fun z => by cases z)
  | grp p js =>
    refine semb_seq (semb_if (b := false) (semt_B (sem_call (sema_cons (sem_var rfl) (sema_cons (sem_op sem_int sem_int rvd_sub) (sema_cons sem_int sema_nil))) ⟨_, _, _, rfl, .inr ⟨⟨_, rfl⟩, rfl⟩⟩)) (fun z => by cases z) fun _ => semb_next) ?_
    refine semb_seq (semb_if (b := false) (semt_or (a := false) (b := false) (semt_not (b := true) (semt_B (sem_isiT (sem_var rfl) (by decide +kernel)))) fun _ =>
      semt_or (a := false) (b := false) (semt_T (sem_op (sem_var rfl) (sem_tup (ds := []) sema_nil (by decide)) (rvd_eqD' hsh (by decide +kernel) rfl))) fun _ =>
      semt_not (b := true) (semt_B (sem_isiS (sem_op (sem_var rfl) sem_int (rvd_ixT rfl)) (by decide +kernel)))) (fun z => by cases z) fun _ => semb_next) ?_
    refine semb_seqR (semb_if (b := true) (semt_and (a := true) (b := true) (semt_T (sem_op (sem_op (sem_var rfl) sem_int (rvd_ixT rfl)) (sem_k T.k_GROUPS) (rvd_inW' (ws := ["seq", "par"]) rfl (in_groups p)))) fun _ =>
      semt_T (sem_op (sem_cb (sema_cons (sem_var rfl) sema_nil) (cvd_lenT' rfl)) sem_int (rvd_eqI' (decide_eq_true rfl)))) (fun _ => ?_) fun z => by cases z)
    rw [Job.depth] at hL hd
    exact semb_ret (sem_call (sema_cons (sem_op (sem_var rfl) sem_int (rvd_ixT rfl)) (sema_cons (sem_var rfl) sema_nil)) ⟨p, js, d, rfl, rfl, by omega, by omega, hn, hg⟩)
  | mul c n j =>
    refine semb_seq (semb_if (b := false) (semt_B (sem_call (sema_cons (sem_var rfl) (sema_cons (sem_op sem_int sem_int rvd_sub) (sema_cons sem_int sema_nil))) ⟨_, _, _, rfl, .inr ⟨⟨_, rfl⟩, rfl⟩⟩)) (fun z => by cases z) fun _ => semb_next) ?_
    refine semb_seq (semb_if (b := false) (semt_or (a := false) (b := false) (semt_not (b := true) (semt_B (sem_isiT (sem_var rfl) (by decide +kernel)))) fun _ =>
      semt_or (a := false) (b := false) (semt_T (sem_op (sem_var rfl) (sem_tup (ds := []) sema_nil (by decide)) (rvd_eqD' hsh (by decide +kernel) rfl))) fun _ =>
      semt_not (b := true) (semt_B (sem_isiS (sem_op (sem_var rfl) sem_int (rvd_ixT rfl)) (by decide +kernel)))) (fun z => by cases z) fun _ => semb_next) ?_
    refine semb_seq (semb_if (b := false) (semt_and (a := false) (b := true) (semt_T (sem_op (sem_op (sem_var rfl) sem_int (rvd_ixT rfl)) (sem_k T.k_GROUPS) (rvd_inW' (ws := ["seq", "par"]) rfl (in_groups_mw c)))) fun z => by cases z) (fun z => by cases z) fun _ => semb_next) ?_
    refine semb_seqR (semb_if (b := true) (semt_and (a := true) (b := true) (semt_T (sem_op (sem_op (sem_var rfl) sem_int (rvd_ixT rfl)) (sem_k T.k_MULTIPLES) (rvd_inW' (ws := ["repeat", "copies"]) rfl (in_mults c)))) fun _ =>
      semt_T (sem_op (sem_cb (sema_cons (sem_var rfl) sema_nil) (cvd_lenT' rfl)) sem_int (rvd_eqI' (decide_eq_true rfl)))) (fun _ => ?_) fun z => by cases z)
    rw [Job.depth] at hL hd
    exact semb_ret (sem_call (sema_cons (sem_op (sem_var rfl) sem_int (rvd_ixT rfl)) (sema_cons (sem_op (sem_var rfl) sem_int (rvd_ixT rfl)) (sema_cons (sem_var rfl) sema_nil))) ⟨c, n, j, d, rfl, rfl, by omega, by omega, hn, hg⟩)
theorem w_measured (T : Tx K mg) : ∀ L : Nat, L ≤ 20 → Df P w K mg base CX0 (2 * L + 3) "measured" p_measured (spF K (pr_measured L))
  | 0, _ => df_none T.f_measured b_measured fun rs r h => by
    obtain ⟨j, d, _, _, h1, _⟩ := h
    have hd1 : 1 ≤ j.depth := by cases j <;> simp [Job.depth]
    omega
  | L + 1, hL => by
    have ih := w_measured T L (by omega)
    exact w_measured1 T hL (w_measured_parts T ih) (w_measured_multiple T ih)
/-- a job of the program -/
structure Job.Ok (D : Nat) (j : Job) : Prop where
  depth : j.depth ≤ D
  nodes : j.nodes ≤ 400
  good : j.Good
def pr_is_job : List Rk → Rk → Prop := fun rs r => ∃ j : Job, rs = [.d j.data] ∧ r = .d (.bool true) ∧ j.Ok 13
theorem w_is_job (T : Tx K mg) : Df P w K mg base CX0 30 "is_job" p_is_job (spF K pr_is_job) := by
  have g_measured := w_measured (P := P) (w := w) (base := base) T 13 (by decide)
  refine df_sem (N := n_is_job) (k := 29) T.f_is_job (fun _ _ _ _ _ _ us hl => match us, hl with | [_], _ => rfl) sc_is_job (fun rs r h => by obtain ⟨j, rfl, _⟩ := h; rfl) ?_
  intro rs r h f cdv A outer s H E hr
  refine ⟨_, (pss_one (ps_ret (pe_cmpR op_notN (pe_df g_measured hr (by omega) pass0 rfl (pa_cons (pv 0) (pa_cons (pe_gint rfl T.c_MAX_DEPTH) pa_nil))) pe_non (nomark _)))), ?_⟩
  obtain ⟨j, rfl, rfl, ok⟩ := h
  have h1 := ok.depth
  exact ⟨_, semb_ret (sem_op (sem_call (sema_cons (sem_var rfl) (sema_cons sem_int sema_nil)) ⟨j, 13, rfl, rfl, h1, by omega, ok.nodes, ok.good⟩) sem_non (rvd_isnotN' rfl)), .inl rfl⟩
def pr_check_job : List Rk → Rk → Prop := fun rs r => ∃ j : Job, rs = [.d j.data] ∧ r = .d .none ∧ j.Ok 13
theorem w_check_job (T : Tx K mg) : Df P w K mg base CX0 31 "check_job" p_check_job (spF K pr_check_job) := by
  have g_is_job := w_is_job (P := P) (w := w) (base := base) T
  refine df_sem (N := n_check_job) (k := 30) T.f_check_job (fun _ _ _ _ _ _ us hl => match us, hl with | [_], _ => rfl) sc_check_job (fun rs r h => by obtain ⟨j, rfl, _⟩ := h; rfl) ?_
  intro rs r h f cdv A outer s H E hr
  refine ⟨_, (pss_one (ps_if (pt_not (pt_val (pe_df g_is_job hr (by omega) pass0 rfl (pa_cons (pv 0) pa_nil)))) (pss_one ps_never) pss_nil)), ?_⟩
  obtain ⟨j, rfl, rfl, ok⟩ := h
  exact ⟨_, semb_if (b := false) (semt_not (b := true) (semt_B (sem_call (sema_cons (sem_var rfl) sema_nil) ⟨j, rfl, rfl, ok⟩))) (fun z => by cases z) fun _ => semb_next, .inr ⟨_, rfl, rfl⟩⟩
def pr_as_job : List Rk → Rk → Prop := fun rs r => ∃ j : Job, rs = [.d j.data] ∧ r = .d j.data ∧ j.Ok 13
theorem w_as_job (T : Tx K mg) : Df P w K mg base CX0 31 "as_job" p_as_job (spF K pr_as_job) := by
  have g_is_job := w_is_job (P := P) (w := w) (base := base) T
  refine df_sem (N := n_as_job) (k := 30) T.f_as_job (fun _ _ _ _ _ _ us hl => match us, hl with | [_], _ => rfl) sc_as_job (fun rs r h => by obtain ⟨j, rfl, _⟩ := h; rfl) ?_
  intro rs r h f cdv A outer s H E hr
  refine ⟨_, (pss_cons (ps_if (pt_not (pt_val (pe_df g_is_job hr (by omega) pass0 rfl (pa_cons (pv 0) pa_nil)))) (pss_one ps_never) pss_nil)
    (pss_one (ps_ret (pv 0)))), ?_⟩
  obtain ⟨j, rfl, rfl, ok⟩ := h
  exact ⟨_, semb_seq (semb_if (b := false) (semt_not (b := true) (semt_B (sem_call (sema_cons (sem_var rfl) sema_nil) ⟨j, rfl, rfl, ok⟩))) (fun z => by cases z) fun _ => semb_next) (semb_ret (sem_var rfl)), .inl rfl⟩
/-! ### the number of steps -/
theorem cvd_sum {ns : List Int} {n : Int} (h : ns.sum = n) : CvD K (rSum K) [.l (ns.map PyData.int)] (.d (.int n)) := fun H vs Q a q => by
  match vs, a with
  | [v], ⟨h1, _⟩ =>
    obtain ⟨p, xs, rfl, ht, hl⟩ := h1
    have e := hl.ints
    subst e
    refine ⟨p, ns, rfl, SqL.of ht, ?_⟩
    rw [h]
    exact q _ H (Same.refl H) (.int _)
def pr_step_count_by (L : Nat) : List Rk → Rk → Prop := fun rs r => ∃ j : Job, rs = [.d j.data] ∧ r = .d (.int (j.steps : Int)) ∧ j.depth ≤ L ∧ j.Good ∧ j.nodes ≤ 1000
theorem b_step_count_by : ∀ (kV doc pm : Value) (an : Option Addr) (cdv ct : Value) (us : List Value), us.length = p_step_count_by.length → bindArgs (PySem.W.fnOf "step_count_by" "step_count_by" (defArgs s_step_count_by) (defBody s_step_count_by) (defScope s_step_count_by) .none kV doc pm an cdv ct) ⟨us, []⟩ = pure (p_step_count_by.zip us) :=
  fun _ _ _ _ _ _ us hl => match us, hl with | [_], _ => rfl
theorem sum_cast : ∀ js : List Job, (js.map fun j => (j.steps : Int)).sum = (Job.stepsL js : Int)
  | [] => rfl
  | j :: js => by
    rw [List.map_cons, List.sum_cons, sum_cast js, Job.stepsL]
    omega
theorem w_step_count_by (T : Tx K mg) : ∀ L : Nat, Df P w K mg base CX0 (L + 2) "step_count_by" p_step_count_by (spF K (pr_step_count_by L))
  | 0 => df_none T.f_step_count_by b_step_count_by fun rs r h => by
    obtain ⟨j, _, _, h1, _⟩ := h
    have hd1 : 1 ≤ j.depth := by cases j <;> simp [Job.depth]
    omega
  | L + 1 => by
    have g_step_count_by := w_step_count_by T L
    have g_is_node := w_is_node (P := P) (w := w) (base := base) T
    refine df_sem (N := n_step_count_by) (k := L + 2) T.f_step_count_by b_step_count_by sc_step_count_by (fun rs r h => by obtain ⟨j, rfl, _⟩ := h; rfl) ?_
    intro rs r h f cdv A outer s H E hr
    refine ⟨_, (pss_cons (ps_if (pt_not (pt_val (pe_df g_is_node hr (by omega) pass0 rfl (pa_cons (pv 0) pa_nil)))) (pss_one (ps_ret pe_int)) pss_nil)
    (pss_cons (ps_if (pt_cmpR op_in_seq (pe_ix ix_tup (pv 0) pe_int (fun _ _ => rfl)) (pe_gref rfl T.c_GROUPS) (by rfl)) (pss_one (ps_ret (pe_callB (cr_sum rfl) rfl T.b_sum (by decide +kernel) (pa_cons (pe_lc (own := [("part", 1)]) (g := (gName 1)) (tt := tYes) rfl sc_step_count_by.nd (pi_tup (pe_ix ix_tup (pv 0) pe_int (fun _ _ => rfl))) (blkOk_by (own := [("part", 1)]) (N := n_step_count_by) (sc := defScope s_step_count_by) (by decide +kernel)) (fun _ _ _ _ _ => (pg_name (i := 1) sc_step_count_by.nd rfl (Or.inl rfl))) (fun _ _ _ _ _ => pts_nil) (fun _ _ _ _ _ => (pe_df g_step_count_by hr (by omega) pass0 rfl (pa_cons (pv 1) pa_nil)))) pa_nil)))) pss_nil)
    (pss_one (ps_ret (pe_op op_mulW (pe_ix ix_tup (pv 0) pe_int (fun _ _ => rfl)) (pe_df g_step_count_by hr (by omega) pass0 rfl (pa_cons (pe_ix ix_tup (pv 0) pe_int (fun _ _ => rfl)) pa_nil))))))), ?_⟩
    obtain ⟨j, rfl, rfl, hL, hg, hn⟩ := h
    refine ⟨.rt (.d (.int (j.steps : Int))), ?_, .inl rfl⟩
    cases j with
    | step i => exact semb_seqR (semb_if (b := true) (semt_not (b := false) (semt_B (sem_call (sema_cons (sem_var rfl) sema_nil) ⟨_, rfl, .inl ⟨_, rfl, rfl⟩⟩))) (fun _ => semb_ret sem_int) fun z => by cases z)
    | grp p js =>
      rw [Job.depth] at hL
      rw [Job.Good] at hg
      rw [Job.nodes] at hn
      have hlen := len_nodesL js
      refine semb_seq (semb_if (b := false) (semt_not (b := true) (semt_B (sem_call (sema_cons (sem_var rfl) sema_nil) ⟨_, rfl, .inr ⟨⟨_, rfl⟩, rfl⟩⟩))) (fun z => by cases z) fun _ => semb_next) ?_
      refine semb_seqR (semb_if (b := true) (semt_T (sem_op (sem_op (sem_var rfl) sem_int (rvd_ixT rfl)) (sem_k T.k_GROUPS) (rvd_inW' (ws := ["seq", "par"]) rfl (in_groups p)))) (fun _ => semb_ret ?_) fun z => by cases z)
      have h3 := sem_lcM (K := K) (g := gName 1) (te := tCall (spF K (pr_step_count_by L)) [] E0 (tCons (tVar 1) tNil)) (vs := [1]) js Job.data (fun j => PyData.int (j.steps : Int)) (semi_tup (Γ := [.d (Job.grp p js).data, .un]) (te := tOp (rIxT K) (tVar 0) (tC (.int 1))) (xs := js.map Job.data) (sem_op (sem_var rfl) sem_int (rvd_ixT (by rw [← datas_map]; rfl)))).j (by omega) fun j hj => by
        have h1 := mem_depths hj
        have h2 := mem_nodesL hj
        exact ⟨_, _, semg_name, fun k hk => hk, sem_call (sema_cons (sem_var rfl) sema_nil) ⟨j, rfl, rfl, by omega, goodL_mem hg.2 hj, by omega⟩⟩
      have e : (js.map fun j => PyData.int (j.steps : Int)) = (js.map fun j => (j.steps : Int)).map PyData.int := by rw [List.map_map]; rfl
      rw [e] at h3
      exact sem_cb (sema_cons h3 sema_nil) (cvd_sum (sum_cast js))
    | mul c n j =>
      rw [Job.depth] at hL
      rw [Job.Good] at hg
      rw [Job.nodes] at hn
      have h5 := good_steps hg.2.2
      refine semb_seq (semb_if (b := false) (semt_not (b := true) (semt_B (sem_call (sema_cons (sem_var rfl) sema_nil) ⟨_, rfl, .inr ⟨⟨_, rfl⟩, rfl⟩⟩))) (fun z => by cases z) fun _ => semb_next) ?_
      refine semb_seq (semb_if (b := false) (semt_T (sem_op (sem_op (sem_var rfl) sem_int (rvd_ixT rfl)) (sem_k T.k_GROUPS) (rvd_inW' (ws := ["seq", "par"]) rfl (in_groups_mw c)))) (fun z => by cases z) fun _ => semb_next) ?_
      rw [Job.steps, Int.natCast_mul]
      exact semb_ret (sem_op (sem_op (sem_var rfl) sem_int (rvd_ixT rfl)) (sem_call (sema_cons (sem_op (sem_var rfl) sem_int (rvd_ixT rfl)) sema_nil) ⟨j, rfl, rfl, by omega, hg.2.2, by omega⟩) (rvd_mul (mulW_ok (lt1000 (n := maxN) (by have := hg.1; omega) (by decide +kernel)) (lt1000 (n := maxN) (by omega) (by decide +kernel)))))
end
end RP
end
section
set_option maxHeartbeats 4000000
namespace RP
open PySem PySem.Spec PyProof.Rows L2
theorem room65 {A : Around} {k : Nat} (hr : Room k A) : A.units + 65 < cLine := by
  have := hr.un
  omega
section
variable {K : PySem.W.Frag} {H0 H H' : Hp} {Γ Γ1 Γ2 : List Sl} {σ : L2.St} {tS uS : TS} {te ta : TE} {tr : TA} {rs : List Rk}
/-- a new list handed on, to be read -/
theorem sema_consL {xs : List PyData} (ha : Sem K Γ ta (.l xs)) (h : SemA K Γ tr rs) : SemA K Γ (tCons ta tr) (.s xs :: rs) := fun H0 σ H Q rp q =>
  ha H0 σ H _ rp fun v H1 e1 a1 => h H0 σ H1 _ (rp.mono e1) fun vs H2 e2 a2 => q (v :: vs) H2 (e1.trans e2) ⟨a1.ag.mono (r := .l xs) e2, a2⟩
theorem rvd_niD' {x : PyData} {ds : List PyData} {b : Bool} (hx : SeqAt.shaped x = true) (hy : SeqAt.shaped (.list ds) = true) (h : (!ds.any fun z => PyData.eqv z x) = b) : RvD K (rNotInD K) (.d x) (.s ds) (.d (.bool b)) := h ▸ rvd_niD hx hy
theorem any_eqv {x : Job} {js : List Job} : ((js.map Job.data).any fun z => PyData.eqv z x.data) = decide (x ∈ js) := by
  rw [List.any_map]
  induction js with
  | nil => simp
  | cons y r ih =>
    rw [List.any_cons, ih]
    show (PyData.eqv y.data x.data || decide (x ∈ r)) = decide (x ∈ y :: r)
    rw [eqv_job]
    by_cases e : y = x
    · subst e
      simp
    · have e' : x ≠ y := fun z => e z.symm
      simp [e, e']
/-- xs.index(e), e in xs -/
theorem sem_index {i k : Nat} {x : Job} {js : List Job} (hi : Γ[i]? = some (.l (js.map Job.data))) (h : Sem K Γ te (.d x.data)) (hd : x.depth ≤ 30) (hds : ∀ j ∈ js, j.depth ≤ 30) (hk : js[k]? = some x) (hn : ∀ m, m < k → js[m]? ≠ some x) :
    Sem K Γ (tBM K "list" (rIndexD K) (tVar i) (tCons te tNil)) (.d (.int (k : Int))) := fun H0 σ H Q rp q => by
  obtain ⟨a, vs, h1, h2, h3, h4⟩ := rp.ownAt hi
  refine ⟨_, h1, .inl ⟨rfl, vs, SqL.of h2⟩, h H0 σ H _ rp fun v H1 e1 a1 => ?_⟩
  refine ⟨a, v, x.data, js.map Job.data, k, x.data, rfl, rfl, .lst (SqL.of (e1 _ _ h2)) (DtL.dp (DtL.keep (TK.of e1) h3)), Dt.dp a1, shaped_jobs hds, shaped_job hd, ?_, ?_, fun m z hm hz => ?_, q _ H1 e1 (.int _)⟩
  · rw [List.getElem?_map, hk]
    rfl
  · rw [eqv_job]
    exact decide_eq_true rfl
  · rw [List.getElem?_map] at hz
    obtain ⟨y, hy, rfl⟩ := Option.map_eq_some_iff.mp hz
    rw [eqv_job]
    exact decide_eq_false fun e => hn m hm (by rw [hy, e])
/-- xs.extend(a tuple) -/
theorem semb_extendT {i : Nat} {xs ys : List PyData} (hi : Γ[i]? = some (.l xs)) (h : Sem K Γ te (.d (.tuple ys))) (hl : xs.length + ys.length ≤ 100000) : SemB K Γ (tDrop (tBM K "list" (rExtT K) (tVar i) (tCons te tNil))) (.nx (Γ.set i (.l (xs ++ ys)))) := fun H0 σ H D rp q => by
  obtain ⟨a, vs, h1, h2, h3, h4⟩ := rp.ownAt hi
  refine ⟨_, h1, .inl ⟨rfl, vs, SqL.of h2⟩, h H0 σ H _ rp fun v H1 e1 a1 => ?_⟩
  obtain ⟨b, ws, rfl, h5, h6⟩ := Dt.isTup a1
  refine ⟨a, b, vs, ws, rfl, rfl, e1 _ _ h2, h5.sq, Nat.le_trans (by rw [h3.length, h6.length]; exact hl) (by decide), ?_⟩
  exact q σ _ ((rp.mono e1).change hi h1 (e1 _ _ h2) ((DtL.keep (TK.of e1) h3).append h6))
end
section
variable {P : Program} {w : World} {K : PySem.W.Frag} {mg : Str → Option Value} {base : Heap}
theorem copies_word (p : Bool) : decide ((gw p : Str) = ("copies" : Str)) = false := by cases p <;> decide +kernel
theorem copies_mw (c : Bool) : decide ((mw c : Str) = ("copies" : Str)) = c := by cases c <;> decide +kernel
def pr_grouped : List Rk → Rk → Prop := fun rs r => ∃ js : List Job, rs = [.s (js.map Job.data)] ∧ r = .l ((RP.grouped js).map Job.data) ∧ js.length ≤ 1000 ∧ ∀ j ∈ js, j.depth ≤ 30
theorem ofPart_data (j : Job) : ∃ c x, c = ((ofPart j).2 : Int) ∧ x = (ofPart j).1.data := ⟨_, _, rfl, rfl⟩
theorem part_sem {Γ : List Sl} {j : Job} (h3 : Γ[3]? = some (.d j.data)) : Sem K Γ (tIf (tAnd (tB (tCall (spF K pr_is_node) [] E0 (tCons (tVar 3) tNil))) (tTest (tOp rEq (tOp (rIxT K) (tVar 3) (tC (.int 0))) (tC (.str "copies"))))) (tSl (rSlA K) (tVar 3) (tPart (tC (.int 1))) tNoPart) (tTup (tCons (tC (.int 1)) (tCons (tVar 3) tNil)))) (.d (.tuple [.int ((ofPart j).2 : Int), (ofPart j).1.data])) := by
  cases j with
  | step z => exact sem_if (b := false) (semt_and (a := false) (b := true) (semt_B (sem_call (sema_cons (sem_var h3) sema_nil) ⟨_, rfl, .inl ⟨_, rfl, rfl⟩⟩)) fun z => by cases z) (fun z => by cases z) fun _ => sem_tup (ds := [_, _]) (sema_cons sem_int (sema_cons (sem_var h3) sema_nil)) (by simp)
  | grp p ks => exact sem_if (b := false) (semt_and (a := true) (b := false) (semt_B (sem_call (sema_cons (sem_var h3) sema_nil) ⟨_, rfl, .inr ⟨⟨_, rfl⟩, rfl⟩⟩)) fun _ => semt_T (sem_op (sem_op (sem_var h3) sem_int (rvd_ixT rfl)) sem_str (rvd_eqS' (copies_word p)))) (fun z => by cases z) fun _ => sem_tup (ds := [_, _]) (sema_cons sem_int (sema_cons (sem_var h3) sema_nil)) (by simp)
  | mul c n k =>
    refine sem_if (b := c) (semt_and (a := true) (b := c) (semt_B (sem_call (sema_cons (sem_var h3) sema_nil) ⟨_, rfl, .inr ⟨⟨_, rfl⟩, rfl⟩⟩)) fun _ => semt_T (sem_op (sem_op (sem_var h3) sem_int (rvd_ixT rfl)) sem_str (rvd_eqS' (copies_mw c)))) (fun e => ?_) fun e => ?_
    · subst e
      exact sem_slT (ds := [.str (mw true), .int (n : Int), k.data]) (sem_var h3) (semo_some sem_int) semo_none cut_tail
    · subst e
      exact sem_tup (ds := [_, _]) (sema_cons sem_int (sema_cons (sem_var h3) sema_nil)) (by simp)
theorem w_grouped (T : Tx K mg) : Df P w K mg base CX0 2 "grouped" p_grouped (spF K pr_grouped) := by
  have g_is_node := w_is_node (P := P) (w := w) (base := base) T
  refine df_sem (N := n_grouped) (k := 1) T.f_grouped (fun _ _ _ _ _ _ us hl => match us, hl with | [_], _ => rfl) sc_grouped (fun rs r h => by obtain ⟨js, rfl, _⟩ := h; rfl) ?_
  intro rs r h f cdv A outer s H E hr
  refine ⟨_, (pss_cons (ps_par (i := 1) (j := 2) rfl sc_grouped.nd rfl rfl (by decide) rfl rfl (pa_cons (pe_lst pa_nil) (pa_cons (pe_lst pa_nil) pa_nil)) (by rfl))
    (pss_cons (ps_for PassesOwn.never rfl (pi_list (pv 0)) (pg_name (i := 3) sc_grouped.nd rfl (Or.inl rfl)) (pss_cons (ps_asg (pe_ifExp (PW.pt (pw_and (pt_val (pe_df g_is_node hr (by omega) pass0 rfl (pa_cons (pv 3) pa_nil))) (pw_and1 (pt_cmpR op_eq (pe_ix ix_tup (pv 3) pe_int (fun _ _ => rfl)) pe_str (nomark _))))) (pe_slice sl_tupA (pv 3) (po_some pe_int) po_none) (pe_tup (pa_cons pe_int (pa_cons (pv 3) pa_nil)))) (pg_tup rfl (pgs_cons (pg_name (i := 4) sc_grouped.nd rfl (Or.inl rfl)) (pgs_cons (pg_name (i := 5) sc_grouped.nd rfl (Or.inl rfl)) pgs_nil))))
    (pss_cons (ps_if (pt_cmpR (op_notInD (room65 hr)) (pv 5) (pv 1) (by rfl)) (pss_cons (ps_expr (pe_bm PySem.F.plainAttrs_list PySem.F.slot_list_append PySem.F.type_list_append mt_append (pv 1) (pa_cons (pv 5) pa_nil)))
    (pss_one (ps_expr (pe_bm PySem.F.plainAttrs_list PySem.F.slot_list_append PySem.F.type_list_append mt_append (pv 2) (pa_cons pe_int pa_nil))))) pss_nil)
    (pss_one (ps_augS (pv 2) (pe_bm PySem.F.plainAttrs_list PySem.F.slot_list_index PySem.F.type_list_index (mt_indexD (room65 hr)) (pv 1) (pa_cons (pv 5) pa_nil)) get_list (pv 4) ip_add set_list)))))
    (pss_one (ps_ret (pe_lc (own := [("inner", 5), ("count", 4)]) (g := (gTup K 2 (gCons (gName 5) (gCons (gName 4) gNil)))) (tt := tYes) rfl sc_grouped.nd (pi_zip rfl T.b_zip (pa_cons (pv 1) (pa_cons (pv 2) pa_nil))) (blkOk_by (own := [("inner", 5), ("count", 4)]) (N := n_grouped) (sc := defScope s_grouped) (by decide +kernel)) (fun _ _ _ _ _ => (pg_tup rfl (pgs_cons (pg_name (i := 5) sc_grouped.nd rfl (Or.inl rfl)) (pgs_cons (pg_name (i := 4) sc_grouped.nd rfl (Or.inl rfl)) pgs_nil)))) (fun _ _ _ _ _ => pts_nil) (fun _ _ _ _ _ => (pe_ifExp (pt_cmpR op_eq (pv 4) pe_int (nomark _)) (pv 5) (pe_tup (pa_cons pe_str (pa_cons (pv 4) (pa_cons (pv 5) pa_nil))))))))))), ?_⟩
  obtain ⟨js, rfl, rfl, hlen, hdep⟩ := h
  refine ⟨.rt (.l ((RP.grouped js).map Job.data)), ?_, .inl rfl⟩
  refine semb_seq (semb_par (sem_lst (ds := []) sema_nil (by decide)) (sem_lst (ds := []) sema_nil (by decide)) (by decide)) ?_
  let gs : Nat → List (Job × Nat) := fun i => gather (js.take i)
  let Γs : Nat → List Sl := fun i => [.f (js.map Job.data), .l (((gs i).map (·.1)).map Job.data), .l (((gs i).map fun q => (q.2 : Int)).map PyData.int), .un, .un, .un]
  have hgl : ∀ i, (gs i).length ≤ 1000 := fun i => Nat.le_trans (gather_le _) (Nat.le_trans (by rw [List.length_take]; omega) hlen)
  have hgd : ∀ i, ∀ j ∈ (gs i).map (·.1), j.depth ≤ 30 := fun i j hj => by
    obtain ⟨q, hq, rfl⟩ := List.mem_map.mp hj
    obtain ⟨k, hk, e⟩ := gather_from hq
    rw [e]
    exact Nat.le_trans (ofPart_depth k) (hdep k (List.mem_of_mem_take hk))
  refine semb_seq (Γ1 := Γs (js.map Job.data).length) (semb_for (xs := js.map Job.data) Γs (semi_in rfl) fun i x hx => ?_) ?_
  · rw [List.getElem?_map] at hx
    obtain ⟨j, hj, rfl⟩ := Option.map_eq_some_iff.mp hx
    have hmem := List.mem_of_getElem? hj
    have hdj := hdep j hmem
    have hg := gather_take hj
    have hpd := Nat.le_trans (ofPart_depth j) hdj
    have hz := hgl i
    have hgd' := hgd i
    have hkl : ((gs i).map (·.1)).length = (gs i).length := List.length_map _
    have pt : ∀ Γ : List Sl, Γ[3]? = some (.d j.data) → Sem K Γ (tIf (tAnd (tB (tCall (spF K pr_is_node) [] E0 (tCons (tVar 3) tNil))) (tTest (tOp rEq (tOp (rIxT K) (tVar 3) (tC (.int 0))) (tC (.str "copies"))))) (tSl (rSlA K) (tVar 3) (tPart (tC (.int 1))) tNoPart) (tTup (tCons (tC (.int 1)) (tCons (tVar 3) tNil)))) (.d (.tuple [.int ((ofPart j).2 : Int), (ofPart j).1.data])) := fun Γ h3 => part_sem h3
    by_cases hx : (ofPart j).1 ∈ (gs i).map (·.1)
    · obtain ⟨k, hk1, hk2⟩ := first_at hx
      obtain ⟨m, hm1, hm2⟩ := addG_at (n := (ofPart j).2) hk1 hk2
      have ek := addG_keys (ofPart j).1 (ofPart j).2 (gs i)
      rw [if_pos hx] at ek
      refine ⟨_, _, semg_name, .inl (SemB.weak (semb_seq (semb_asg (pt _ rfl) (semg_tup rfl (semgs_cons semg_name (semgs_cons semg_name semgs_nil))))
        (semb_seq (semb_if (b := false) (semt_T (sem_op (sem_var rfl) (sem_varL rfl) (rvd_niD' (shaped_job hpd) (shaped_jobs hgd') (by rw [any_eqv, decide_eq_true hx] <;> rfl)))) (fun z => by cases z) fun _ => semb_next)
        (semb_augItem (k := k) (ns := (gs i).map fun q => (q.2 : Int)) (n := (m : Int)) (m := ((ofPart j).2 : Int)) rfl (sem_index (js := (gs i).map (·.1)) rfl (sem_var rfl) hpd hgd' hk1 hk2) (sem_var rfl) ?_))) ?_)⟩
      · have := hm1
        rw [List.getElem?_map] at this ⊢
        obtain ⟨q, hq, rfl⟩ := Option.map_eq_some_iff.mp this
        rw [hq]
        rfl
      · refine .eq rfl (.eq ?_ (.eq ?_ (.un (.un (.un .nil)))))
        · show Sl.l (((gather (js.take (i + 1))).map (·.1)).map Job.data) = _
          rw [hg, ek]
        · show Sl.l (((gather (js.take (i + 1))).map fun q => (q.2 : Int)).map PyData.int) = _
          have e6 : ((gather (js.take (i + 1))).map fun q => (q.2 : Int)) = ((gather (js.take (i + 1))).map (·.2)).map fun n : Nat => (n : Int) := by rw [List.map_map]; rfl
          have e7 : ((gs i).map fun q => (q.2 : Int)) = ((gs i).map (·.2)).map fun n : Nat => (n : Int) := by rw [List.map_map]; rfl
          rw [e6, hg, hm2, List.map_set, e7, Int.natCast_add]
    · have ek := addG_new (n := (ofPart j).2) hx
      have hnk : ∀ m, m < (gs i).length → ((gs i).map (·.1) ++ [(ofPart j).1])[m]? ≠ some (ofPart j).1 := fun m hm e => by
        rw [List.getElem?_append_left (by rw [hkl]; exact hm)] at e
        exact hx (List.mem_of_getElem? e)
      have hkk : ((gs i).map (·.1) ++ [(ofPart j).1])[(gs i).length]? = some (ofPart j).1 := by
        rw [List.getElem?_append_right (by rw [hkl]; exact Nat.le_refl _), hkl, Nat.sub_self]
        rfl
      have hgd2 : ∀ y ∈ (gs i).map (·.1) ++ [(ofPart j).1], y.depth ≤ 30 := fun y hy => by
        rcases List.mem_append.mp hy with z | z
        · exact hgd' y z
        · rw [List.mem_singleton.mp z]
          exact hpd
      refine ⟨_, _, semg_name, .inl (SemB.weak (semb_seq (semb_asg (pt _ rfl) (semg_tup rfl (semgs_cons semg_name (semgs_cons semg_name semgs_nil))))
        (semb_seq (semb_if (b := true) (semt_T (sem_op (sem_var rfl) (sem_varL rfl) (rvd_niD' (shaped_job hpd) (shaped_jobs hgd') (by rw [any_eqv, decide_eq_false hx] <;> rfl)))) (fun _ => semb_seq (semb_append rfl (sem_var rfl) (by rw [List.length_map, hkl]; omega)) (semb_append rfl sem_int (by rw [List.length_map, List.length_map]; omega))) fun z => by cases z)
        (semb_augItem (k := (gs i).length) (ns := ((gs i).map fun q => (q.2 : Int)) ++ [0]) (n := 0) (m := ((ofPart j).2 : Int)) ?_ (sem_index (js := (gs i).map (·.1) ++ [(ofPart j).1]) ?_ (sem_var rfl) hpd hgd2 hkk hnk) (sem_var rfl) ?_))) ?_)⟩
      · rw [List.map_append]
        rfl
      · rw [List.map_append]
        rfl
      · rw [List.getElem?_append_right (by rw [List.length_map]; exact Nat.le_refl _), List.length_map, Nat.sub_self]
        rfl
      · refine .eq rfl (.eq ?_ (.eq ?_ (.un (.un (.un .nil)))))
        · show Sl.l (((gather (js.take (i + 1))).map (·.1)).map Job.data) = _
          rw [hg, ek, List.map_append, List.map_append]
          rfl
        · show Sl.l (((gather (js.take (i + 1))).map fun q => (q.2 : Int)).map PyData.int) = _
          have e8 : (((gs i).map fun q : Job × Nat => (q.2 : Int)) ++ [0]).set (gs i).length (0 + ((ofPart j).2 : Int)) = ((gs i).map fun q : Job × Nat => (q.2 : Int)) ++ [((ofPart j).2 : Int)] := by
            rw [List.set_append_right _ _ (by rw [List.length_map]; exact Nat.le_refl _), List.length_map, Nat.sub_self, Int.zero_add]
            rfl
          rw [hg, ek, e8, List.map_append]
          rfl
  · rw [List.length_map]
    have e1 : gs js.length = gather js := by
      show gather (js.take js.length) = gather js
      rw [List.take_length]
    have e2 : (RP.grouped js).map Job.data = (gather js).map fun q => (unPart q).data := by
      unfold RP.grouped
      rw [List.map_map]
      rfl
    rw [e2, ← e1]
    have hz := hgl js.length
    refine semb_ret (sem_lcM (gs js.length) (fun q => PyData.tuple [q.1.data, .int (q.2 : Int)]) _ ?_ (by omega) fun q hq => ⟨_, _, semg_tup rfl (semgs_cons semg_name (semgs_cons semg_name semgs_nil)), (by decide), ?_⟩)
    · have e3 : (gs js.length).map (fun q => PyData.tuple [q.1.data, .int (q.2 : Int)]) = pairs2 (((gs js.length).map (·.1)).map Job.data) (((gs js.length).map fun q => (q.2 : Int)).map PyData.int) := by
        unfold pairs2
        generalize gs js.length = g
        induction g with
        | nil => rfl
        | cons q r ih => simp only [List.map_cons, List.zipWith_cons_cons, ih]
      rw [e3]
      exact semj_zip rfl rfl
    · refine sem_if (b := decide ((q.2 : Int) = 1)) (semt_T (sem_op (sem_var rfl) sem_int rvd_eqI)) (fun e => ?_) fun e => ?_
      · have e4 : q.2 = 1 := by
          have := of_decide_eq_true e
          omega
        have e5 : unPart q = q.1 := by
          unfold unPart
          rw [if_pos e4]
        rw [e5]
        exact sem_var rfl
      · have e4 : ¬ q.2 = 1 := by
          have := of_decide_eq_false e
          omega
        have e5 : unPart q = .mul true q.2 q.1 := by
          unfold unPart
          rw [if_neg e4]
        rw [e5]
        exact sem_tup (ds := [_, _, _]) (sema_cons sem_str (sema_cons (sem_var rfl) (sema_cons (sem_var rfl) sema_nil))) (by simp)
end
end RP
end
section
set_option maxHeartbeats 2000000
namespace RP
open PySem

/-! ### the number of steps is kept -/
theorem stepsL_append : ∀ js ks : List Job, Job.stepsL (js ++ ks) = Job.stepsL js + Job.stepsL ks
  | [], ks => by simp [Job.stepsL]
  | j :: js, ks => by
    rw [List.cons_append, Job.stepsL, Job.stepsL, stepsL_append js ks]
    omega
theorem steps_nil : Job.nil.steps = 0 := by simp [Job.steps, Job.stepsL]
theorem steps_flat1 (p : Bool) (j : Job) : Job.stepsL (flat1 p j) = j.steps := by
  cases j with
  | step i => simp [flat1, Job.stepsL, Job.steps]
  | mul c n j => simp [flat1, Job.stepsL]
  | grp q js =>
    unfold flat1
    simp only
    split
    · rw [Job.steps]
    · split
      · rename_i h1 h2
        rw [h2.2, Job.steps, Job.stepsL]
      · simp [Job.stepsL]
theorem steps_flat (p : Bool) : ∀ js : List Job, Job.stepsL (js.flatMap (flat1 p)) = Job.stepsL js
  | [] => rfl
  | j :: js => by rw [List.flatMap_cons, stepsL_append, steps_flat1, steps_flat p js, Job.stepsL]
def gsteps (g : List (Job × Nat)) : Nat := (g.map fun q => q.2 * q.1.steps).sum
theorem gsteps_add (x : Job) (n : Nat) : ∀ g : List (Job × Nat), gsteps (addG x n g) = gsteps g + n * x.steps
  | [] => by simp [addG, gsteps]
  | (y, m) :: r => by
    have ih := gsteps_add x n r
    unfold addG
    by_cases e : y = x
    · subst e
      rw [if_pos rfl]
      simp only [gsteps, List.map_cons, List.sum_cons, Nat.add_mul]
      omega
    · rw [if_neg e]
      simp only [gsteps, List.map_cons, List.sum_cons] at ih ⊢
      omega
theorem steps_ofPart (j : Job) : (ofPart j).2 * (ofPart j).1.steps = j.steps := by
  cases j with
  | step i => simp [ofPart]
  | grp p js => simp [ofPart]
  | mul c n j => cases c <;> simp [ofPart, Job.steps]
theorem gsteps_fold : ∀ (js : List Job) (g : List (Job × Nat)), gsteps (js.foldl (fun g j => addG (ofPart j).1 (ofPart j).2 g) g) = gsteps g + Job.stepsL js
  | [], g => by simp [Job.stepsL]
  | j :: js, g => by
    rw [List.foldl_cons, gsteps_fold js, gsteps_add, steps_ofPart, Job.stepsL]
    omega
theorem steps_unPart (q : Job × Nat) : (unPart q).steps = q.2 * q.1.steps := by
  unfold unPart
  split
  · rename_i h
    rw [h]
    omega
  · rw [Job.steps]
theorem steps_grouped (js : List Job) : Job.stepsL (grouped js) = Job.stepsL js := by
  have h := gsteps_fold js []
  have e : gsteps ([] : List (Job × Nat)) = 0 := rfl
  rw [e, Nat.zero_add] at h
  rw [stepsL_sum]
  unfold grouped
  rw [List.map_map]
  rw [← h]
  unfold gsteps gather
  congr 1
  apply List.map_congr_left
  intro q _
  exact steps_unPart q
theorem steps_close (p : Bool) (js : List Job) : (close p js).steps = Job.stepsL js := by
  unfold close
  split
  · rw [steps_nil, Job.stepsL]
  · simp [Job.stepsL]
  · rw [Job.steps]
theorem steps_tidyParts (p : Bool) (js : List Job) : (tidyParts p js).steps = Job.stepsL js := by
  unfold tidyParts
  rw [steps_close]
  cases p with
  | true => rw [if_pos rfl, steps_grouped, steps_flat]
  | false => rw [if_neg (by decide), steps_flat]
theorem steps_tidyMul (c : Bool) (n : Nat) (t : Job) : (tidyMul c n t).steps = n * t.steps := by
  unfold tidyMul
  split
  · rename_i h
    rcases h with h | h
    · rw [h, steps_nil, Nat.zero_mul]
    · rw [h, steps_nil, Nat.mul_zero]
  · split
    · split
      · simp only [Job.steps, Nat.mul_assoc]
      · split
        · rename_i h
          rw [h, Nat.one_mul]
        · rw [Job.steps]
    · split
      · rename_i h
        rw [h, Nat.one_mul]
      · rw [Job.steps]
theorem steps_tidy : ∀ j : Job, j.tidy.steps = j.steps := by
  intro j
  induction j using Job.ind with
  | h1 i => rw [Job.tidy]
  | h2 p js ih =>
    rw [Job.tidy, steps_tidyParts, tidyL_map, stepsL_sum, List.map_map, Job.steps, stepsL_sum]
    congr 1
    apply List.map_congr_left
    intro j hj
    exact ih j hj
  | h3 c n j ih => rw [Job.tidy, steps_tidyMul, ih, Job.steps]

/-! ### the form -/
def isGrp (p : Bool) : Job → Bool
  | .grp q _ => q == p
  | _ => false
mutual
def Job.Tn : Job → Prop
  | .step _ => True
  | .grp p js => 2 ≤ js.length ∧ Job.TnL p js
  | .mul _ n k => 2 ≤ n ∧ Job.Tn k
def Job.TnL (p : Bool) : List Job → Prop
  | [] => True
  | j :: js => (Job.Tn j ∧ isGrp p j = false) ∧ Job.TnL p js
end
theorem tnL_iff {p : Bool} : ∀ {js : List Job}, Job.TnL p js ↔ ∀ j ∈ js, j.Tn ∧ isGrp p j = false
  | [] => by simp [Job.TnL]
  | j :: js => by rw [Job.TnL, tnL_iff]; simp
def Job.Tf (j : Job) : Prop := j = .nil ∨ j.Tn
theorem not_tn_nil : ¬ Job.nil.Tn := by
  intro h
  simp only [Job.Tn] at h
  exact absurd h.1 (by decide)
theorem tn_steps : ∀ j : Job, j.Tn → 1 ≤ j.steps := by
  intro j
  induction j using Job.ind with
  | h1 i => intro _; exact Nat.le_refl _
  | h2 p js ih =>
    intro h
    rw [Job.Tn] at h
    cases js with
    | nil => exact absurd h.1 (by decide)
    | cons j js =>
      have h1 := ih j List.mem_cons_self (tnL_iff.mp h.2 j List.mem_cons_self).1
      rw [Job.steps, Job.stepsL]
      omega
  | h3 c n j ih =>
    intro h
    rw [Job.Tn] at h
    have h1 := ih h.2
    rw [Job.steps]
    have : 1 * 1 ≤ n * j.steps := Nat.mul_le_mul (by omega) h1
    omega
theorem flat1_form {p : Bool} {j x : Job} (h : j.Tf) (hx : x ∈ flat1 p j) : x.Tn ∧ isGrp p x = false := by
  cases j with
  | step i =>
    simp [flat1] at hx
    subst hx
    rcases h with h | h
    · cases h
    · exact ⟨h, rfl⟩
  | mul c n j =>
    simp [flat1] at hx
    subst hx
    rcases h with h | h
    · cases h
    · exact ⟨h, rfl⟩
  | grp q js =>
    unfold flat1 at hx
    simp only at hx
    split at hx
    · rename_i e
      subst e
      rcases h with h | h
      · cases h
        cases hx
      · rw [Job.Tn] at h
        exact tnL_iff.mp h.2 x hx
    · rename_i e
      split at hx
      · cases hx
      · rename_i e2
        rw [List.mem_singleton] at hx
        subst hx
        rcases h with h | h
        · cases h
          exact absurd ⟨rfl, rfl⟩ e2
        · exact ⟨h, by simp [isGrp, e]⟩
/-- the groups: each counts at least one; one that counts one is a part itself -/
theorem addG_form {x : Job} {n : Nat} {q : Job × Nat} : ∀ {g : List (Job × Nat)}, q ∈ addG x n g → q ∈ g ∨ q = (x, n) ∨ ∃ m, (x, m) ∈ g ∧ q = (x, m + n)
  | [], h => by
    simp [addG] at h
    exact .inr (.inl h)
  | (y, m) :: r, h => by
    unfold addG at h
    by_cases e : y = x
    · subst e
      rw [if_pos rfl] at h
      rcases List.mem_cons.mp h with z | z
      · exact .inr (.inr ⟨m, List.mem_cons_self, z⟩)
      · exact .inl (List.mem_cons_of_mem _ z)
    · rw [if_neg e] at h
      rcases List.mem_cons.mp h with z | z
      · exact .inl (by rw [z]; exact List.mem_cons_self)
      · rcases addG_form z with u | u | ⟨k, u, v⟩
        · exact .inl (List.mem_cons_of_mem _ u)
        · exact .inr (.inl u)
        · exact .inr (.inr ⟨k, List.mem_cons_of_mem _ u, v⟩)
theorem gather_form {P : Job × Nat → Prop} (h2 : ∀ x m n, P (x, m) → P (x, n) → P (x, m + n)) : ∀ (js : List Job) (g : List (Job × Nat)), (∀ j ∈ js, P (ofPart j)) → (∀ q ∈ g, P q) → ∀ q ∈ js.foldl (fun g j => addG (ofPart j).1 (ofPart j).2 g) g, P q
  | [], g, _, hg, q, hq => hg q hq
  | j :: js, g, hj, hg, q, hq => by
    rw [List.foldl_cons] at hq
    refine gather_form h2 js _ (fun k hk => hj k (List.mem_cons_of_mem _ hk)) (fun u hu => ?_) q hq
    have h0 := hj j List.mem_cons_self
    rcases addG_form hu with z | z | ⟨m, z, e⟩
    · exact hg u z
    · rw [z]
      exact h0
    · rw [e]
      exact h2 _ _ _ (hg _ z) h0
theorem grouped_form {js : List Job} (h : ∀ j ∈ js, j.Tn ∧ isGrp true j = false) : ∀ x ∈ grouped js, x.Tn ∧ isGrp true x = false := by
  intro x hx
  unfold grouped at hx
  obtain ⟨q, hq, rfl⟩ := List.mem_map.mp hx
  have key : ∀ q ∈ gather js, q.1.Tn ∧ 1 ≤ q.2 ∧ (q.2 = 1 → isGrp true q.1 = false) := by
    refine gather_form (P := fun q => q.1.Tn ∧ 1 ≤ q.2 ∧ (q.2 = 1 → isGrp true q.1 = false)) (fun x m n a b => ⟨a.1, by have := a.2.1; show 1 ≤ m + n; omega, fun z => ?_⟩) js [] (fun j hj => ?_) (fun q hq => by cases hq)
    · have h1 := a.2.1
      have h2 := b.2.1
      have h3 : m + n = 1 := z
      have h4 : 1 ≤ m := h1
      have h5 : 1 ≤ n := h2
      omega
    · have hj2 := h j hj
      cases j with
      | step i => exact ⟨hj2.1, Nat.le_refl _, fun _ => hj2.2⟩
      | grp p ks => exact ⟨hj2.1, Nat.le_refl _, fun _ => hj2.2⟩
      | mul c n k =>
        have h3 := hj2.1
        rw [Job.Tn] at h3
        cases c with
        | false => exact ⟨hj2.1, Nat.le_refl _, fun _ => hj2.2⟩
        | true =>
          refine ⟨h3.2, ?_, fun z => ?_⟩
          · show 1 ≤ n
            omega
          · have z2 : n = 1 := z
            omega
  obtain ⟨k1, k2, k3⟩ := key q hq
  unfold unPart
  split
  · rename_i e
    exact ⟨k1, k3 e⟩
  · rename_i e
    refine ⟨?_, rfl⟩
    rw [Job.Tn]
    exact ⟨by omega, k1⟩
theorem close_form {p : Bool} {js : List Job} (h : ∀ j ∈ js, j.Tn ∧ isGrp p j = false) : (close p js).Tf := by
  unfold close
  split
  · exact .inl rfl
  · exact .inr (h _ (by simp)).1
  · refine .inr ?_
    rw [Job.Tn]
    exact ⟨by simp, tnL_iff.mpr h⟩
theorem tidyParts_form {p : Bool} {js : List Job} (h : ∀ j ∈ js, j.Tf) : (tidyParts p js).Tf := by
  have hf : ∀ x ∈ js.flatMap (flat1 p), x.Tn ∧ isGrp p x = false := fun x hx => by
    obtain ⟨j, hj, hx⟩ := List.mem_flatMap.mp hx
    exact flat1_form (h j hj) hx
  unfold tidyParts
  cases p with
  | true =>
    rw [if_pos rfl]
    exact close_form (grouped_form hf)
  | false =>
    rw [if_neg (by decide)]
    exact close_form hf
theorem tidyMul_form {c : Bool} {n : Nat} {t : Job} (h : t.Tf) : (tidyMul c n t).Tf := by
  unfold tidyMul
  split
  · exact .inl rfl
  · rename_i hn
    have h0 : n ≠ 0 := fun z => hn (.inl z)
    have ht : t.Tn := h.resolve_left fun z => hn (.inr z)
    have plain : (if n = 1 then t else .mul c n t : Job).Tf := by
      split
      · exact .inr ht
      · refine .inr ?_
        rw [Job.Tn]
        exact ⟨by omega, ht⟩
    cases t with
    | step i => exact plain
    | grp p js => exact plain
    | mul d m k =>
      show (if d = c then Job.mul c (n * m) k else if n = 1 then Job.mul d m k else .mul c n (Job.mul d m k)).Tf
      split
      · have h3 := ht
        rw [Job.Tn] at h3
        refine .inr ?_
        rw [Job.Tn]
        refine ⟨?_, h3.2⟩
        have : 1 * 2 ≤ n * m := Nat.mul_le_mul (by omega) h3.1
        omega
      · exact plain
theorem tidy_form : ∀ j : Job, j.tidy.Tf := by
  intro j
  induction j using Job.ind with
  | h1 i => rw [Job.tidy]; exact .inr (by rw [Job.Tn]; trivial)
  | h2 p js ih =>
    rw [Job.tidy, tidyL_map]
    refine tidyParts_form fun j hj => ?_
    obtain ⟨k, hk, rfl⟩ := List.mem_map.mp hj
    exact ih k hk
  | h3 c n j ih => rw [Job.tidy]; exact tidyMul_form ih
end RP
end
section
set_option maxHeartbeats 2000000
namespace RP
open PySem

structure Pot where
  op : Nat → Nat → Nat
  sc : Nat → Nat → Nat → Nat
  a : Nat
  a1 : 1 ≤ a
  op0 : ∀ x, op x 0 = x
  zop : ∀ x, op 0 x = x
  opA : ∀ x y z, op (op x y) z = op x (op y z)
  opM : ∀ {x y z u}, x ≤ y → z ≤ u → op x z ≤ op y u
  scM : ∀ {k n x y}, x ≤ y → sc k n x ≤ sc k n y
  sc1 : ∀ k x, sc k 1 x = x
  scA : ∀ k m n x, sc k (m + n) x ≤ op (sc k m x) (sc k n x)
  scP : ∀ k m n x, sc k (n * m) x ≤ sc k n (sc k m x)
  scK : ∀ k n x, sc k n x ≤ sc (k + 1) n x
  scL : ∀ k n x, 1 ≤ n → op x (sc k (n - 1) x) ≤ sc (k + 1) n x
  opC : ∀ x y, op x y = op y x
namespace Pot
variable (T : Pot) (k : Nat)
theorem opL {x y : Nat} : x ≤ T.op x y := by
  have h := T.opM (Nat.le_refl x) (Nat.zero_le y)
  rw [T.op0] at h
  exact h
theorem opR {x y : Nat} : y ≤ T.op x y := by rw [T.opC]; exact T.opL
mutual
def Pt : Job → Nat
  | .step _ => 1
  | .grp p js => if js.isEmpty then 1 else T.a + ItL p js
  | .mul _ n j => T.a + T.sc k n (Pt j)
def It (p : Bool) : Job → Nat
  | .step _ => 1
  | .grp q js => if q = p then ItL p js else if js.isEmpty then (if q then 1 else 0) else T.a + ItL q js
  | .mul c n j => if c = p then T.sc k n (Pt j) else T.a + T.sc k n (Pt j)
def ItL (p : Bool) : List Job → Nat
  | [] => 0
  | j :: js => T.op (It p j) (ItL p js)
end
variable {T} {k}
theorem itL_append {p : Bool} : ∀ js ks : List Job, T.ItL k p (js ++ ks) = T.op (T.ItL k p js) (T.ItL k p ks)
  | [], ks => by rw [List.nil_append, ItL, T.zop]
  | j :: js, ks => by rw [List.cons_append, ItL, ItL, itL_append js ks, T.opA]
theorem itL_mono {p : Bool} {T' : Nat} : ∀ {js ks : List Job}, (∃ f : Job → Job, ks = js.map f ∧ ∀ j ∈ js, T.It k p (f j) ≤ T.It T' p j) → T.ItL k p ks ≤ T.ItL T' p js
  | [], ks, ⟨f, e, _⟩ => by rw [e]; exact Nat.le_refl _
  | j :: js, ks, ⟨f, e, h⟩ => by
    rw [e, List.map_cons, ItL, ItL]
    exact T.opM (h j List.mem_cons_self) (itL_mono ⟨f, rfl, fun x hx => h x (List.mem_cons_of_mem _ hx)⟩)
theorem it_mem {p : Bool} {j : Job} : ∀ {js : List Job}, j ∈ js → T.It k p j ≤ T.ItL k p js
  | x :: js, h => by
    rw [ItL]
    rcases List.mem_cons.mp h with rfl | h
    · exact T.opL
    · exact Nat.le_trans (it_mem h) T.opR
theorem pt_pos (j : Job) : 1 ≤ T.Pt k j := by
  have := T.a1
  cases j with
  | step i => simp [Pt]
  | grp p js =>
    rw [Pt]
    split <;> omega
  | mul c n j =>
    rw [Pt]
    omega
theorem it_le (p : Bool) (j : Job) : T.It k p j ≤ T.Pt k j := by
  have := T.a1
  cases j with
  | step i => simp [Pt, It]
  | grp q js =>
    rw [It, Pt]
    split
    · rename_i e
      subst e
      cases js with
      | nil => simp [ItL]
      | cons x r =>
        rw [if_neg (by simp)]
        omega
    · split
      · split <;> omega
      · exact Nat.le_refl _
  | mul c n j =>
    rw [It, Pt]
    split <;> omega
theorem it_nil (p : Bool) : T.It k p .nil = 0 := by
  cases p <;> simp [It, ItL]
theorem pt_nil : T.Pt k .nil = 1 := by simp [Pt]
/-- a part that stands alone -/
theorem pt_alone (p : Bool) (j : Job) : T.Pt k j ≤ T.a + T.It k p j := by
  have := T.a1
  cases j with
  | step i => simp only [Pt, It]; omega
  | grp q js =>
    rw [It, Pt]
    split
    · omega
    · rename_i h
      split
      · rename_i e
        subst e
        omega
      · omega
  | mul c n j =>
    rw [It, Pt]
    split <;> omega
/-- a part that is of another kind -/
theorem it_other {j : Job} (h : j.Tn) (hg : isGrp true j = false) (hm : ∀ n x, j ≠ .mul true n x) : T.It k true j = T.Pt k j := by
  cases j with
  | step i => simp [Pt, It]
  | grp q js =>
    have hq : q = false := by cases q <;> simp_all [isGrp]
    subst hq
    rw [Job.Tn] at h
    cases js with
    | nil => exact absurd h.1 (by decide)
    | cons x r => simp [It, Pt]
  | mul c n j =>
    have hc : c = false := by
      cases c with
      | false => rfl
      | true => exact absurd rfl (hm n j)
    subst hc
    simp [It, Pt]
/-! ### the tidy form -/
theorem it_flat1 (p : Bool) (j : Job) : T.ItL k p (flat1 p j) = T.It k p j := by
  cases j with
  | step i => simp only [flat1, ItL, T.op0]
  | mul c n j => simp only [flat1, ItL, T.op0]
  | grp q js =>
    unfold flat1
    simp only
    split
    · rename_i e
      rw [It, if_pos e]
    · rename_i e
      split
      · rename_i e2
        rw [ItL, It, if_neg e, e2.2, e2.1]
        simp
      · rw [ItL, ItL, T.op0]
theorem it_flat (p : Bool) : ∀ js : List Job, T.ItL k p (js.flatMap (flat1 p)) = T.ItL k p js
  | [] => rfl
  | j :: js => by rw [List.flatMap_cons, itL_append, it_flat1, it_flat p js, ItL]
def gsum (T : Pot) (k : Nat) : List (Job × Nat) → Nat
  | [] => 0
  | q :: g => T.op (T.sc k q.2 (T.Pt k q.1)) (gsum T k g)
theorem gsum_add (x : Job) (n : Nat) : ∀ g : List (Job × Nat), gsum T k (addG x n g) ≤ T.op (gsum T k g) (T.sc k n (T.Pt k x))
  | [] => by
    simp only [addG, gsum]
    rw [T.op0, T.zop]
    exact Nat.le_refl _
  | (y, m) :: r => by
    have ih := gsum_add x n r
    unfold addG
    by_cases e : y = x
    · subst e
      rw [if_pos rfl]
      simp only [gsum]
      rw [T.opA, T.opC (gsum T k r), ← T.opA]
      exact T.opM (T.scA _ _ _ _) (Nat.le_refl _)
    · rw [if_neg e]
      simp only [gsum]
      rw [T.opA]
      exact T.opM (Nat.le_refl _) ih
theorem gsum_fold : ∀ (js : List Job) (g : List (Job × Nat)), gsum T k (js.foldl (fun g j => addG (ofPart j).1 (ofPart j).2 g) g) ≤ T.op (gsum T k g) (js.foldr (fun j s => T.op (T.sc k (ofPart j).2 (T.Pt k (ofPart j).1)) s) 0)
  | [], g => by
    rw [List.foldl_nil, List.foldr_nil, T.op0]
    exact Nat.le_refl _
  | j :: js, g => by
    rw [List.foldl_cons, List.foldr_cons, ← T.opA]
    exact Nat.le_trans (gsum_fold js _) (T.opM (gsum_add _ _ _) (Nat.le_refl _))
theorem it_unPart (q : Job × Nat) : T.It k true (unPart q) ≤ T.sc k q.2 (T.Pt k q.1) := by
  unfold unPart
  split
  · rename_i e
    rw [e, T.sc1]
    exact it_le _ _
  · rw [It, if_pos rfl]
    exact Nat.le_refl _
theorem it_map_unPart : ∀ g : List (Job × Nat), T.ItL k true (g.map unPart) ≤ gsum T k g
  | [] => Nat.le_refl _
  | q :: g => by
    rw [List.map_cons, ItL, gsum]
    exact T.opM (it_unPart q) (it_map_unPart g)
theorem it_grouped {js : List Job} (h : ∀ j ∈ js, j.Tn ∧ isGrp true j = false) : T.ItL k true (grouped js) ≤ T.ItL k true js := by
  have e : js.foldr (fun j s => T.op (T.sc k (ofPart j).2 (T.Pt k (ofPart j).1)) s) 0 = T.ItL k true js := by
    induction js with
    | nil => rfl
    | cons j js ih =>
      rw [List.foldr_cons, ItL, ih (fun x hx => h x (List.mem_cons_of_mem _ hx))]
      congr 1
      have hj := h j List.mem_cons_self
      cases j with
      | step i =>
        show T.sc _ 1 _ = _
        rw [T.sc1]
        show T.Pt k (.step i) = T.It k true (.step i)
        simp [Pt, It]
      | grp p ks =>
        show T.sc _ 1 _ = _
        rw [T.sc1]
        exact (it_other hj.1 hj.2 (fun n x z => by cases z)).symm
      | mul c n x =>
        cases c with
        | true =>
          show T.sc _ n (T.Pt _ x) = _
          rw [It, if_pos rfl]
        | false =>
          show T.sc _ 1 _ = _
          rw [T.sc1]
          exact (it_other hj.1 hj.2 (fun n x z => by cases z)).symm
  refine Nat.le_trans (it_map_unPart _) ?_
  have h1 := gsum_fold (T := T) (k := k) js []
  rw [gsum, T.zop, e] at h1
  exact h1
/-- the two bounds of a job's form -/
def Below (T : Pot) (k k' : Nat) (t j : Job) : Prop := T.Pt k t ≤ T.Pt k' j ∧ ∀ p, T.It k p t ≤ T.It k' p j
theorem below_close {q : Bool} {js ks : List Job} {k' : Nat} (h : T.ItL k q ks ≤ T.ItL k' q js) (hne : js = [] → ks = []) : Below T k k' (close q ks) (.grp q js) := by
  have := T.a1
  unfold close
  split
  · refine ⟨?_, fun p => ?_⟩
    · rw [pt_nil]
      exact pt_pos _
    · rw [it_nil]
      exact Nat.zero_le _
  · rename_i x
    have hjs : js.isEmpty = false := by
      cases js with
      | nil => exact absurd (hne rfl) (by simp)
      | cons y r => rfl
    rw [ItL, ItL, T.op0] at h
    have hp : T.Pt k x ≤ T.a + T.ItL k' q js := Nat.le_trans (pt_alone q x) (by omega)
    refine ⟨?_, fun p => ?_⟩
    · rw [Pt, hjs]
      exact hp
    · rw [It]
      split
      · rename_i e
        subst e
        exact h
      · rw [hjs]
        exact Nat.le_trans (it_le p x) hp
  · rename_i x y r
    have hjs : js.isEmpty = false := by
      cases js with
      | nil => exact absurd (hne rfl) (by simp)
      | cons y r => rfl
    refine ⟨?_, fun p => ?_⟩
    · rw [Pt, Pt, hjs]
      show T.a + T.ItL k q (x :: y :: r) ≤ T.a + T.ItL k' q js
      omega
    · rw [It, It, hjs]
      split
      · rename_i e
        subst e
        exact h
      · show T.a + T.ItL k q (x :: y :: r) ≤ T.a + T.ItL k' q js
        omega
theorem below_tidy : ∀ j : Job, Below T k k j.tidy j := by
  intro j
  induction j using Job.ind with
  | h1 i => rw [Job.tidy]; exact ⟨Nat.le_refl _, fun p => Nat.le_refl _⟩
  | h2 q js ih =>
    rw [Job.tidy, tidyL_map]
    have h1 : T.ItL k q (js.map Job.tidy) ≤ T.ItL k q js := itL_mono ⟨Job.tidy, rfl, fun j hj => (ih j hj).2 q⟩
    have h2 : T.ItL k q ((js.map Job.tidy).flatMap (flat1 q)) ≤ T.ItL k q js := by
      rw [it_flat]
      exact h1
    have hf : ∀ x ∈ (js.map Job.tidy).flatMap (flat1 q), x.Tn ∧ isGrp q x = false := fun x hx => by
      obtain ⟨j, hj, hx⟩ := List.mem_flatMap.mp hx
      obtain ⟨i, hi, rfl⟩ := List.mem_map.mp hj
      exact flat1_form (tidy_form i) hx
    unfold tidyParts
    cases q with
    | true =>
      rw [if_pos rfl]
      exact below_close (Nat.le_trans (it_grouped hf) h2) (fun e => by subst e; rfl)
    | false =>
      rw [if_neg (by decide)]
      exact below_close h2 (fun e => by subst e; rfl)
  | h3 c n j ih =>
    have := T.a1
    rw [Job.tidy]
    have hsc : T.sc k n (T.Pt k j.tidy) ≤ T.sc k n (T.Pt k j) := T.scM ih.1
    have plain : Below T k k (if n = 1 then j.tidy else .mul c n j.tidy) (.mul c n j) := by
      split
      · rename_i e
        subst e
        have h1 : T.Pt k j.tidy ≤ T.sc k 1 (T.Pt k j) := by rw [T.sc1]; exact ih.1
        refine ⟨?_, fun p => ?_⟩
        · rw [Pt]
          omega
        · have h2 := it_le (T := T) (k := k) p j.tidy
          rw [It]
          split <;> omega
      · refine ⟨?_, fun p => ?_⟩
        · rw [Pt, Pt]
          omega
        · rw [It, It]
          split <;> omega
    unfold tidyMul
    split
    · refine ⟨?_, fun p => ?_⟩
      · rw [pt_nil]
        exact pt_pos _
      · rw [it_nil]
        exact Nat.zero_le _
    · generalize j.tidy = t at *
      cases t with
      | step i => exact plain
      | grp p js => exact plain
      | mul d m x =>
        show Below T k k (if d = c then Job.mul c (n * m) x else if n = 1 then Job.mul d m x else .mul c n (Job.mul d m x)) (.mul c n j)
        split
        · rename_i e
          subst e
          have h1 : T.sc k (n * m) (T.Pt k x) ≤ T.sc k n (T.Pt k j) := by
            refine Nat.le_trans (T.scP _ _ _ _) (Nat.le_trans (T.scM ?_) hsc)
            rw [Pt]
            omega
          refine ⟨?_, fun p => ?_⟩
          · rw [Pt, Pt]
            omega
          · rw [It, It]
            split <;> omega
        · exact plain
end Pot
end RP
end
section
set_option maxHeartbeats 2000000
namespace RP
open PySem
/-- nodes -/
def wP : Pot where
  op := fun x y => x + y
  sc := fun k n x => min n (k + 2) * x
  a := 1
  a1 := Nat.le_refl _
  op0 := fun x => Nat.add_zero x
  zop := fun x => Nat.zero_add x
  opA := Nat.add_assoc
  opM := fun h1 h2 => Nat.add_le_add h1 h2
  scM := fun h => Nat.mul_le_mul_left _ h
  sc1 := fun k x => by
    show min 1 (k + 2) * x = x
    rw [Nat.min_eq_left (by omega), Nat.one_mul]
  scA := fun k m n x => by
    show min (m + n) (k + 2) * x ≤ min m (k + 2) * x + min n (k + 2) * x
    rw [← Nat.add_mul]
    exact Nat.mul_le_mul_right _ (by omega)
  scP := fun k m n x => by
    show min (n * m) (k + 2) * x ≤ min n (k + 2) * (min m (k + 2) * x)
    rw [← Nat.mul_assoc]
    refine Nat.mul_le_mul_right _ ?_
    rcases Nat.eq_zero_or_pos n with h | h
    · subst h; simp
    · rcases Nat.eq_zero_or_pos m with h' | h'
      · subst h'; simp
      · rcases Nat.le_total n (k + 2) with a | a
        · rw [Nat.min_eq_left a]
          rcases Nat.le_total m (k + 2) with b | b
          · rw [Nat.min_eq_left b]
            exact Nat.min_le_left _ _
          · rw [Nat.min_eq_right b]
            refine Nat.le_trans (Nat.min_le_right _ _) ?_
            calc k + 2 = 1 * (k + 2) := (Nat.one_mul _).symm
              _ ≤ n * (k + 2) := Nat.mul_le_mul_right _ h
        · rw [Nat.min_eq_right a]
          refine Nat.le_trans (Nat.min_le_right _ _) ?_
          have : 1 ≤ min m (k + 2) := by omega
          calc k + 2 = (k + 2) * 1 := (Nat.mul_one _).symm
            _ ≤ (k + 2) * min m (k + 2) := Nat.mul_le_mul_left _ this
  scK := fun k n x => Nat.mul_le_mul_right _ (by omega)
  scL := fun k n x h => by
    show x + min (n - 1) (k + 2) * x ≤ min n (k + 1 + 2) * x
    have e : min n (k + 1 + 2) = min (n - 1) (k + 2) + 1 := by omega
    rw [e, Nat.add_mul, Nat.one_mul]
    omega
  opC := Nat.add_comm
/-- depth -/
def dP : Pot where
  op := fun x y => max x y
  sc := fun _ n x => if n = 0 then 0 else x
  a := 2
  a1 := by decide
  op0 := fun x => Nat.max_eq_left (Nat.zero_le x)
  zop := fun x => Nat.max_eq_right (Nat.zero_le x)
  opA := Nat.max_assoc
  opM := fun {x y z u} h1 h2 => Nat.max_le.mpr ⟨Nat.le_trans h1 (Nat.le_max_left _ _), Nat.le_trans h2 (Nat.le_max_right _ _)⟩
  scM := fun {k n x y} h => by
    show (if n = 0 then 0 else x) ≤ if n = 0 then 0 else y
    split <;> omega
  sc1 := fun k x => by
    show (if (1 : Nat) = 0 then 0 else x) = x
    rw [if_neg (by decide)]
  scA := fun k m n x => by
    show (if m + n = 0 then 0 else x) ≤ max (if m = 0 then 0 else x) (if n = 0 then 0 else x)
    split
    · omega
    · split <;> split <;> omega
  scP := fun k m n x => by
    show (if n * m = 0 then 0 else x) ≤ if n = 0 then 0 else if m = 0 then 0 else x
    split
    · exact Nat.zero_le _
    · rename_i h
      rw [if_neg (by rintro rfl; simp at h), if_neg (by rintro rfl; simp at h)]
      exact Nat.le_refl _
  scK := fun k n x => Nat.le_refl _
  scL := fun k n x h => by
    show max x (if n - 1 = 0 then 0 else x) ≤ if n = 0 then 0 else x
    rw [if_neg (show ¬ n = 0 by omega)]
    split <;> omega
  opC := Nat.max_comm
/-! ### what a step leaves -/
mutual
def Job.choices : Job → List (List Nat)
  | .step _ => [[]]
  | .grp p js => Job.choicesL p 0 js
  | .mul _ n j => if 0 < n then (Job.choices j).map (0 :: ·) else []
def Job.choicesL (p : Bool) (i : Nat) : List Job → List (List Nat)
  | [] => []
  | j :: js => let here := (Job.choices j).map (i :: ·)
    if p = false ∧ here ≠ [] then here else here ++ Job.choicesL p (i + 1) js
end
mutual
def Job.left : Job → List Nat → Job
  | .step _, _ => .nil
  | .grp p js, i :: c => .grp p (Job.leftL p js i c)
  | .grp p js, [] => .grp p js
  | .mul c n j, _ :: d => .grp c [Job.left j d, .mul c (n - 1) j]
  | .mul c n j, [] => .mul c n j
def Job.leftL (p : Bool) : List Job → Nat → List Nat → List Job
  | [], _, _ => []
  | j :: js, 0, c => Job.left j c :: js
  | j :: js, i + 1, c => if p then j :: Job.leftL p js i c else Job.leftL p js i c
end
/-! a step that can be done first, by its address -/
mutual
def Job.Ch : Job → List Nat → Int → Prop
  | .step v, c, x => c = [] ∧ x = v
  | .grp p js, i :: c, x => Job.ChL p js i c x
  | .grp _ _, [], _ => False
  | .mul _ n j, i :: c, x => i = 0 ∧ 0 < n ∧ Job.Ch j c x
  | .mul _ _ _, [], _ => False
def Job.ChL (p : Bool) : List Job → Nat → List Nat → Int → Prop
  | [], _, _, _ => False
  | j :: _, 0, c, x => Job.Ch j c x
  | j :: js, i + 1, c, x => (p = true ∨ j.steps = 0) ∧ Job.ChL p js i c x
end
mutual
theorem choices_steps : ∀ j : Job, j.choices = [] ↔ j.steps = 0
  | .step i => by simp [Job.choices, Job.steps]
  | .grp p js => by
    rw [Job.choices, Job.steps]
    exact choices_stepsL p 0 js
  | .mul c n j => by
    have ih := choices_steps j
    rw [Job.choices, Job.steps]
    split
    · rw [List.map_eq_nil_iff, ih]
      constructor
      · intro z; rw [z, Nat.mul_zero]
      · intro z
        rcases Nat.mul_eq_zero.mp z with z | z
        · omega
        · exact z
    · have e : n = 0 := by omega
      subst e
      simp
theorem choices_stepsL : ∀ (p : Bool) (i : Nat) (js : List Job), Job.choicesL p i js = [] ↔ Job.stepsL js = 0
  | p, i, [] => by simp [Job.choicesL, Job.stepsL]
  | p, i, j :: js => by
    have h1 := choices_steps j
    have h2 := choices_stepsL p (i + 1) js
    rw [Job.choicesL, Job.stepsL]
    by_cases e : j.choices = []
    · have e0 := h1.mp e
      rw [e]
      simp only [List.map_nil, ne_eq, not_true_eq_false, and_false, if_false, List.nil_append]
      rw [h2]
      omega
    · have e0 : ¬ j.steps = 0 := fun z => e (h1.mpr z)
      split
      · rw [List.map_eq_nil_iff]
        constructor
        · intro z; exact absurd z e
        · intro z; omega
      · rw [List.append_eq_nil_iff, List.map_eq_nil_iff]
        constructor
        · intro z; exact absurd z.1 e
        · intro z; omega
end
mutual
theorem ch_of : ∀ (j : Job) (c : List Nat), c ∈ j.choices → ∃ v, j.Ch c v
  | .step i, c, h => by
    simp [Job.choices] at h
    exact ⟨i, by rw [Job.Ch]; exact ⟨h, rfl⟩⟩
  | .grp p js, c, h => by
    rw [Job.choices] at h
    obtain ⟨m, d, v, e, hv⟩ := ch_ofL p js 0 c h
    rw [e, Nat.zero_add]
    exact ⟨v, by rw [Job.Ch]; exact hv⟩
  | .mul c n j, d, h => by
    rw [Job.choices] at h
    split at h
    · rename_i hn
      obtain ⟨e, he, rfl⟩ := List.mem_map.mp h
      obtain ⟨v, hv⟩ := ch_of j e he
      exact ⟨v, by rw [Job.Ch]; exact ⟨rfl, hn, hv⟩⟩
    · cases h
theorem ch_ofL : ∀ (p : Bool) (js : List Job) (i : Nat) (c : List Nat), c ∈ Job.choicesL p i js → ∃ m d v, c = (i + m) :: d ∧ Job.ChL p js m d v
  | p, [], i, c, hc => by simp [Job.choicesL] at hc
  | p, j :: js, i, c, hc => by
    rw [Job.choicesL] at hc
    have here : c ∈ j.choices.map (i :: ·) → ∃ m d v, c = (i + m) :: d ∧ Job.ChL p (j :: js) m d v := fun z => by
      obtain ⟨d, hd, rfl⟩ := List.mem_map.mp z
      obtain ⟨v, hv⟩ := ch_of j d hd
      exact ⟨0, d, v, rfl, by rw [Job.ChL]; exact hv⟩
    split at hc
    · exact here hc
    · rename_i hne
      rcases List.mem_append.mp hc with z | z
      · exact here z
      · obtain ⟨m, d, v, e, hv⟩ := ch_ofL p js (i + 1) c z
        refine ⟨m + 1, d, v, by rw [e]; congr 1; omega, ?_⟩
        rw [Job.ChL]
        refine ⟨?_, hv⟩
        cases p with
        | true => exact .inl rfl
        | false =>
          refine .inr ((choices_steps j).mp ?_)
          have e2 : ¬ (j.choices.map (i :: ·)) ≠ [] := fun z => hne ⟨rfl, z⟩
          have e3 : j.choices.map (i :: ·) = [] := Classical.byContradiction e2
          exact List.map_eq_nil_iff.mp e3
end
mutual
theorem left_steps : ∀ (j : Job) (c : List Nat) (v : Int), j.Ch c v → (j.left c).steps + 1 = j.steps
  | .step i, c, v, h => by rw [Job.left, steps_nil, Job.steps]
  | .grp p js, [], v, h => by rw [Job.Ch] at h; exact h.elim
  | .grp p js, i :: c, v, h => by
    rw [Job.Ch] at h
    rw [Job.left, Job.steps, Job.steps]
    exact left_stepsL p js i c v h
  | .mul c n j, [], v, h => by rw [Job.Ch] at h; exact h.elim
  | .mul c n j, i :: d, v, h => by
    rw [Job.Ch] at h
    have ih := left_steps j d v h.2.2
    obtain ⟨m, rfl⟩ : ∃ m, n = m + 1 := ⟨n - 1, by omega⟩
    simp only [Job.left, Job.steps, Job.stepsL, Nat.add_sub_cancel, Nat.add_mul]
    omega
theorem left_stepsL : ∀ (p : Bool) (js : List Job) (i : Nat) (c : List Nat) (v : Int), Job.ChL p js i c v → Job.stepsL (Job.leftL p js i c) + 1 = Job.stepsL js
  | p, [], i, c, v, h => by rw [Job.ChL] at h; exact h.elim
  | p, j :: js, 0, c, v, h => by
    rw [Job.ChL] at h
    have ih := left_steps j c v h
    rw [Job.leftL, Job.stepsL, Job.stepsL]
    omega
  | p, j :: js, i + 1, c, v, h => by
    rw [Job.ChL] at h
    have ih := left_stepsL p js i c v h.2
    rw [Job.leftL]
    cases p with
    | true =>
      rw [if_pos rfl, Job.stepsL, Job.stepsL]
      omega
    | false =>
      have h0 : j.steps = 0 := h.1.resolve_left (by decide)
      rw [if_neg (by decide), Job.stepsL, h0]
      omega
end
end RP
end
section
set_option maxHeartbeats 2000000
namespace RP
open PySem
/-! ### the measures over a step -/
namespace Pot
variable {T : Pot} {k : Nat}
mutual
theorem pt_up : ∀ j : Job, T.Pt k j ≤ T.Pt (k + 1) j
  | .step i => by simp [Pt]
  | .grp p js => by
    have := it_upL p js
    rw [Pt, Pt]
    split <;> omega
  | .mul c n j => by
    have h1 := pt_up j
    have h2 := Nat.le_trans (T.scM (k := k) (n := n) h1) (T.scK k n _)
    rw [Pt, Pt]
    omega
theorem it_up : ∀ (p : Bool) (j : Job), T.It k p j ≤ T.It (k + 1) p j
  | p, .step i => by simp [It]
  | p, .grp q js => by
    have h1 := it_upL p js
    have h2 := it_upL q js
    rw [It, It]
    split
    · exact h1
    · split <;> omega
  | p, .mul c n j => by
    have h1 := pt_up j
    have h2 := Nat.le_trans (T.scM (k := k) (n := n) h1) (T.scK k n _)
    rw [It, It]
    split <;> omega
theorem it_upL : ∀ (p : Bool) (js : List Job), T.ItL k p js ≤ T.ItL (k + 1) p js
  | p, [] => by simp [ItL]
  | p, j :: js => by
    rw [ItL, ItL]
    exact T.opM (it_up p j) (it_upL p js)
end
theorem leftL_ne : ∀ (p : Bool) (js : List Job) (i : Nat) (c : List Nat) (v : Int), Job.ChL p js i c v → (Job.leftL p js i c).isEmpty = false ∧ js.isEmpty = false
  | p, [], i, c, v, h => by rw [Job.ChL] at h; exact h.elim
  | p, j :: js, 0, c, v, h => by rw [Job.leftL]; exact ⟨rfl, rfl⟩
  | p, j :: js, i + 1, c, v, h => by
    rw [Job.ChL] at h
    rw [Job.leftL]
    have ih := leftL_ne p js i c v h.2
    split
    · exact ⟨rfl, rfl⟩
    · exact ⟨ih.1, rfl⟩
mutual
theorem below_left : ∀ (j : Job) (c : List Nat) (v : Int), j.Ch c v → Below T k (k + 1) (j.left c) j
  | .step i, c, v, h => by
    rw [Job.left]
    refine ⟨?_, fun p => ?_⟩
    · rw [pt_nil]
      exact pt_pos _
    · rw [it_nil]
      exact Nat.zero_le _
  | .grp p js, [], v, h => by rw [Job.Ch] at h; exact h.elim
  | .grp p js, i :: c, v, h => by
    rw [Job.Ch] at h
    have h1 := below_leftL p js i c v h
    have ne := leftL_ne p js i c v h
    rw [Job.left]
    refine ⟨?_, fun q => ?_⟩
    · rw [Pt, Pt, ne.1, ne.2]
      show T.a + _ ≤ T.a + _
      omega
    · rw [It, It, ne.1, ne.2]
      split
      · rename_i e
        subst e
        exact h1
      · show T.a + _ ≤ T.a + _
        omega
  | .mul c n j, [], v, h => by rw [Job.Ch] at h; exact h.elim
  | .mul c n j, i :: d, v, h => by
    rw [Job.Ch] at h
    have ih := below_left j d v h.2.2
    have h2 : T.ItL k c [j.left d, .mul c (n - 1) j] ≤ T.sc (k + 1) n (T.Pt (k + 1) j) := by
      rw [ItL, ItL, ItL, T.op0, It, if_pos rfl]
      refine Nat.le_trans (T.opM (Nat.le_trans (it_le c _) ih.1) (T.scM (pt_up j))) (T.scL k n _ h.2.1)
    rw [Job.left]
    refine ⟨?_, fun q => ?_⟩
    · rw [Pt, Pt]
      show T.a + _ ≤ T.a + _
      omega
    · rw [It, It]
      split
      · rename_i e
        subst e
        exact h2
      · show T.a + _ ≤ T.a + _
        omega
theorem below_leftL : ∀ (p : Bool) (js : List Job) (i : Nat) (c : List Nat) (v : Int), Job.ChL p js i c v → T.ItL k p (Job.leftL p js i c) ≤ T.ItL (k + 1) p js
  | p, [], i, c, v, h => by rw [Job.ChL] at h; exact h.elim
  | p, j :: js, 0, c, v, h => by
    rw [Job.ChL] at h
    rw [Job.leftL, ItL, ItL]
    exact T.opM ((below_left j c v h).2 p) (it_upL p js)
  | p, j :: js, i + 1, c, v, h => by
    rw [Job.ChL] at h
    have ih := below_leftL p js i c v h.2
    rw [Job.leftL, ItL]
    split
    · rw [ItL]
      exact T.opM (it_up p j) ih
    · exact Nat.le_trans ih T.opR
end
end Pot
/-! ### nodes and depth of a tidy form -/
mutual
theorem tn_nodes (k : Nat) : ∀ j : Job, j.Tn → j.nodes ≤ wP.Pt k j
  | .step i, _ => by simp [Job.nodes, Pot.Pt]
  | .grp p js, h => by
    rw [Job.Tn] at h
    have h1 := tn_nodesL k p js h.2
    rw [Job.nodes, Pot.Pt]
    have e : js.isEmpty = false := by
      cases js with
      | nil => exact absurd h.1 (by decide)
      | cons x r => rfl
    rw [e]
    show 1 + _ ≤ 1 + _
    omega
  | .mul c n j, h => by
    rw [Job.Tn] at h
    have h1 := tn_nodes k j h.2
    rw [Job.nodes, Pot.Pt]
    show 1 + _ ≤ 1 + min n (k + 2) * wP.Pt k j
    have h2 : 1 * wP.Pt k j ≤ min n (k + 2) * wP.Pt k j := Nat.mul_le_mul_right _ (by omega)
    omega
theorem tn_nodesL (k : Nat) : ∀ (p : Bool) (js : List Job), Job.TnL p js → Job.nodesL js ≤ wP.ItL k p js
  | p, [], _ => by simp [Job.nodesL]
  | p, .step i :: js, h => by
    rw [Job.TnL] at h
    have h2 := tn_nodesL k p js h.2
    rw [Job.nodesL, Pot.ItL]
    show _ ≤ wP.It k p (.step i) + _
    simp only [Job.nodes, Pot.It]
    omega
  | p, .grp q ks :: js, h => by
    rw [Job.TnL] at h
    have h1 := tn_nodes k (.grp q ks) h.1.1
    have h2 := tn_nodesL k p js h.2
    rw [Job.nodesL, Pot.ItL]
    show _ ≤ wP.It k p (.grp q ks) + _
    have e : wP.It k p (.grp q ks) = wP.Pt k (.grp q ks) := by
      have hq : ¬ q = p := by
        intro e
        have := h.1.2
        simp [isGrp, e] at this
      have hk := h.1.1
      rw [Job.Tn] at hk
      rw [Pot.It, Pot.Pt, if_neg hq]
      cases ks with
      | nil => exact absurd hk.1 (by decide)
      | cons x r => rfl
    omega
  | p, .mul c n j :: js, h => by
    rw [Job.TnL] at h
    have hk := h.1.1
    rw [Job.Tn] at hk
    have h1 := tn_nodes k j hk.2
    have h2 := tn_nodesL k p js h.2
    rw [Job.nodesL, Pot.ItL]
    show _ ≤ wP.It k p (.mul c n j) + _
    have e : (Job.mul c n j).nodes ≤ wP.It k p (.mul c n j) := by
      have h3 : 2 * wP.Pt k j ≤ min n (k + 2) * wP.Pt k j := Nat.mul_le_mul_right _ (by omega)
      have h4 := Pot.pt_pos (T := wP) (k := k) j
      rw [Job.nodes, Pot.It]
      show _ ≤ if c = p then min n (k + 2) * wP.Pt k j else 1 + min n (k + 2) * wP.Pt k j
      split <;> omega
    omega
end
mutual
theorem tn_depth (k : Nat) : ∀ j : Job, j.Tn → j.depth ≤ dP.Pt k j
  | .step i, _ => by simp [Job.depth, Pot.Pt]
  | .grp p js, h => by
    rw [Job.Tn] at h
    have h1 := tn_depthL k p js h.2
    rw [Job.depth, Pot.Pt]
    have e : js.isEmpty = false := by
      cases js with
      | nil => exact absurd h.1 (by decide)
      | cons x r => rfl
    rw [e]
    show 1 + _ ≤ 2 + _
    omega
  | .mul c n j, h => by
    rw [Job.Tn] at h
    have h1 := tn_depth k j h.2
    rw [Job.depth, Pot.Pt]
    show 1 + _ ≤ 2 + if n = 0 then 0 else dP.Pt k j
    rw [if_neg (show ¬ n = 0 by omega)]
    omega
theorem tn_depthL (k : Nat) : ∀ (p : Bool) (js : List Job), Job.TnL p js → Job.depths js ≤ 1 + dP.ItL k p js
  | p, [], _ => by simp [Job.depths]
  | p, j :: js, h => by
    rw [Job.TnL] at h
    have h2 := tn_depthL k p js h.2
    have h1 : j.depth ≤ 1 + dP.It k p j := by
      cases j with
      | step i => simp [Job.depth]
      | grp q ks =>
        have h1 := tn_depth k (.grp q ks) h.1.1
        have e : dP.It k p (.grp q ks) = dP.Pt k (.grp q ks) := by
          have hq : ¬ q = p := by
            intro e
            have := h.1.2
            simp [isGrp, e] at this
          have hk := h.1.1
          rw [Job.Tn] at hk
          rw [Pot.It, Pot.Pt, if_neg hq]
          cases ks with
          | nil => exact absurd hk.1 (by decide)
          | cons x r => rfl
        omega
      | mul c n j =>
        have hk := h.1.1
        rw [Job.Tn] at hk
        have h3 := tn_depth k j hk.2
        rw [Job.depth, Pot.It]
        show _ ≤ 1 + if c = p then (if n = 0 then 0 else dP.Pt k j) else 2 + (if n = 0 then 0 else dP.Pt k j)
        rw [if_neg (show ¬ n = 0 by omega)]
        split <;> omega
    rw [Job.depths, Pot.ItL]
    show max _ _ ≤ 1 + max (dP.It k p j) (dP.ItL k p js)
    omega
end
theorem tf_nodes (k : Nat) {j : Job} (h : j.Tf) : j.nodes ≤ wP.Pt k j := by
  rcases h with h | h
  · subst h
    simp [Job.nodes, Job.nodesL, Pot.Pt]
  · exact tn_nodes k j h
theorem tf_depth (k : Nat) {j : Job} (h : j.Tf) : j.depth ≤ dP.Pt k j := by
  rcases h with h | h
  · subst h
    simp [Job.depth, Job.depths, Pot.Pt]
  · exact tn_depth k j h
mutual
theorem dp_le (k : Nat) : ∀ j : Job, dP.Pt k j ≤ 2 * j.depth
  | .step i => by simp [Job.depth, Pot.Pt]
  | .grp p js => by
    have h := dp_leL k p js
    rw [Job.depth, Pot.Pt]
    split
    · omega
    · show 2 + _ ≤ _
      omega
  | .mul c n j => by
    have h := dp_le k j
    rw [Job.depth, Pot.Pt]
    show 2 + (if n = 0 then 0 else dP.Pt k j) ≤ _
    split <;> omega
theorem dp_leL (k : Nat) : ∀ (p : Bool) (js : List Job), dP.ItL k p js ≤ 2 * Job.depths js
  | p, [] => by simp [Pot.ItL]
  | p, j :: js => by
    have h1 := Nat.le_trans (Pot.it_le (T := dP) (k := k) p j) (dp_le k j)
    have h2 := dp_leL k p js
    rw [Pot.ItL, Job.depths]
    show max _ _ ≤ _
    omega
end
theorem depth_tidy (j : Job) : j.tidy.depth ≤ 2 * j.depth :=
  Nat.le_trans (tf_depth 0 (tidy_form j)) (Nat.le_trans (Pot.below_tidy (T := dP) (k := 0) j).1 (dp_le 0 j))
/-! ### the tidy form has no more nodes -/
theorem nodesL_append : ∀ js ks : List Job, Job.nodesL (js ++ ks) = Job.nodesL js + Job.nodesL ks
  | [], ks => by simp [Job.nodesL]
  | j :: js, ks => by
    rw [List.cons_append, Job.nodesL, Job.nodesL, nodesL_append js ks]
    omega
theorem nodes_pos (j : Job) : 1 ≤ j.nodes := by cases j <;> simp [Job.nodes]
theorem nodes_flat1 (p : Bool) (j : Job) : Job.nodesL (flat1 p j) ≤ j.nodes := by
  cases j with
  | step i => simp [flat1, Job.nodesL, Job.nodes]
  | mul c n j => simp [flat1, Job.nodesL]
  | grp q js =>
    unfold flat1
    simp only
    split
    · rw [Job.nodes]
      omega
    · split
      · simp [Job.nodesL]
      · simp [Job.nodesL]
theorem nodes_flat (p : Bool) : ∀ js : List Job, Job.nodesL (js.flatMap (flat1 p)) ≤ Job.nodesL js
  | [] => Nat.le_refl _
  | j :: js => by
    have h1 := nodes_flat1 p j
    have h2 := nodes_flat p js
    rw [List.flatMap_cons, nodesL_append, Job.nodesL]
    omega
theorem nodes_unPart (x : Job) (n : Nat) : (unPart (x, n)).nodes ≤ 1 + x.nodes ∧ x.nodes ≤ (unPart (x, n)).nodes := by
  unfold unPart
  split
  · show x.nodes ≤ 1 + x.nodes ∧ x.nodes ≤ x.nodes
    omega
  · show (Job.mul true n x).nodes ≤ 1 + x.nodes ∧ x.nodes ≤ (Job.mul true n x).nodes
    rw [Job.nodes]
    omega
theorem nodes_addG (x : Job) (n : Nat) : ∀ g : List (Job × Nat), Job.nodesL ((addG x n g).map unPart) ≤ Job.nodesL (g.map unPart) + (unPart (x, n)).nodes
  | [] => by simp [addG, Job.nodesL]
  | (y, m) :: r => by
    have ih := nodes_addG x n r
    unfold addG
    by_cases e : y = x
    · subst e
      rw [if_pos rfl]
      have h1 := nodes_unPart y (m + n)
      have h2 := nodes_unPart y m
      have h3 := nodes_unPart y n
      have h4 := nodes_pos y
      simp only [List.map_cons, Job.nodesL]
      omega
    · rw [if_neg e]
      simp only [List.map_cons, Job.nodesL] at ih ⊢
      omega
theorem nodes_gather : ∀ (js : List Job) (g : List (Job × Nat)), Job.nodesL ((js.foldl (fun g j => addG (ofPart j).1 (ofPart j).2 g) g).map unPart) ≤ Job.nodesL (g.map unPart) + Job.nodesL js
  | [], g => by simp [Job.nodesL]
  | j :: js, g => by
    have h1 := nodes_gather js (addG (ofPart j).1 (ofPart j).2 g)
    have h2 := nodes_addG (ofPart j).1 (ofPart j).2 g
    have h3 : (unPart ((ofPart j).1, (ofPart j).2)).nodes ≤ j.nodes := by
      cases j with
      | step i => exact Nat.le_refl _
      | grp p js => exact Nat.le_refl _
      | mul c n j =>
        cases c with
        | false => exact Nat.le_refl _
        | true =>
          have h := nodes_unPart j n
          show (unPart (j, n)).nodes ≤ _
          rw [Job.nodes]
          omega
    rw [List.foldl_cons, Job.nodesL]
    omega
theorem nodes_grouped (js : List Job) : Job.nodesL (grouped js) ≤ Job.nodesL js := by
  have h := nodes_gather js []
  simp only [List.map_nil, Job.nodesL, Nat.zero_add] at h
  exact h
theorem nodes_tidyParts (p : Bool) (js : List Job) : (tidyParts p js).nodes ≤ 1 + Job.nodesL js := by
  have h1 := nodes_flat p js
  have h2 := nodes_grouped (js.flatMap (flat1 p))
  have h3 : ∀ ks : List Job, (close p ks).nodes ≤ 1 + Job.nodesL ks := fun ks => by
    unfold close
    split
    · simp [Job.nodes, Job.nodesL]
    · simp only [Job.nodesL]
      omega
    · rw [Job.nodes]
      exact Nat.le_refl _
  unfold tidyParts
  have h4 := h3 (if p = true then grouped (js.flatMap (flat1 p)) else js.flatMap (flat1 p))
  split at h4
  · rename_i e
    rw [if_pos e]
    omega
  · rename_i e
    rw [if_neg e]
    omega
theorem nodes_tidyMul (c : Bool) (n : Nat) (t : Job) : (tidyMul c n t).nodes ≤ 1 + t.nodes := by
  have h := nodes_pos t
  unfold tidyMul
  split
  · simp [Job.nodes, Job.nodesL]
  · split
    · split
      · simp only [Job.nodes]
        omega
      · split
        · omega
        · rw [Job.nodes]
          exact Nat.le_refl _
    · split
      · omega
      · rw [Job.nodes]
        exact Nat.le_refl _
mutual
theorem nodes_tidy : ∀ j : Job, j.tidy.nodes ≤ j.nodes
  | .step i => by rw [Job.tidy]; exact Nat.le_refl _
  | .grp p js => by
    have h1 := nodes_tidyParts p (Job.tidyL js)
    have h2 := nodes_tidyL js
    rw [Job.tidy, Job.nodes]
    omega
  | .mul c n j => by
    have h1 := nodes_tidyMul c n j.tidy
    have h2 := nodes_tidy j
    rw [Job.tidy, Job.nodes]
    omega
theorem nodes_tidyL : ∀ js : List Job, Job.nodesL (Job.tidyL js) ≤ Job.nodesL js
  | [] => Nat.le_refl _
  | j :: js => by
    have h1 := nodes_tidy j
    have h2 := nodes_tidyL js
    rw [Job.tidyL, Job.nodesL, Job.nodesL]
    omega
end
/-! ### sizes of the steps -/
mutual
def Job.Sv : Job → Prop
  | .step i => -(maxN : Int) ≤ i ∧ i ≤ (maxN : Int)
  | .grp _ js => Job.SvL js
  | .mul _ _ j => Job.Sv j
def Job.SvL : List Job → Prop
  | [] => True
  | j :: js => Job.Sv j ∧ Job.SvL js
end
theorem svL_iff : ∀ {js : List Job}, Job.SvL js ↔ ∀ j ∈ js, j.Sv
  | [] => by simp [Job.SvL]
  | j :: js => by rw [Job.SvL, svL_iff]; simp
mutual
theorem good_sv : ∀ j : Job, j.Good → j.Sv
  | .step i, h => by rw [Job.Good] at h; rw [Job.Sv]; exact h
  | .grp p js, h => by
    rw [Job.Good] at h
    rw [Job.Sv]
    exact good_svL js h.2
  | .mul c n j, h => by
    rw [Job.Good] at h
    rw [Job.Sv]
    exact good_sv j h.2.2
theorem good_svL : ∀ js : List Job, Job.GoodL js → Job.SvL js
  | [], _ => by rw [Job.SvL]; trivial
  | j :: js, h => by
    rw [Job.GoodL] at h
    rw [Job.SvL]
    exact ⟨good_sv j h.1, good_svL js h.2⟩
end
mutual
theorem tn_good : ∀ j : Job, j.Tn → j.Sv → j.steps ≤ maxN → j.Good
  | .step i, _, h, _ => by rw [Job.Sv] at h; rw [Job.Good]; exact h
  | .grp p js, t, h, s => by
    rw [Job.Tn] at t
    rw [Job.Sv] at h
    rw [Job.steps] at s
    rw [Job.Good]
    exact ⟨s, tn_goodL p js t.2 h s⟩
  | .mul c n j, t, h, s => by
    rw [Job.Tn] at t
    rw [Job.Sv] at h
    rw [Job.steps] at s
    have h1 := tn_steps j t.2
    have h2 : n * 1 ≤ n * j.steps := Nat.mul_le_mul_left _ h1
    have h3 : 1 * j.steps ≤ n * j.steps := Nat.mul_le_mul_right _ (by omega)
    rw [Job.Good]
    exact ⟨by omega, s, tn_good j t.2 h (by omega)⟩
theorem tn_goodL : ∀ (p : Bool) (js : List Job), Job.TnL p js → Job.SvL js → Job.stepsL js ≤ maxN → Job.GoodL js
  | p, [], _, _, _ => by rw [Job.GoodL]; trivial
  | p, j :: js, t, h, s => by
    rw [Job.TnL] at t
    rw [Job.SvL] at h
    rw [Job.stepsL] at s
    rw [Job.GoodL]
    exact ⟨tn_good j t.1.1 h.1 (by omega), tn_goodL p js t.2 h.2 (by omega)⟩
end
theorem sv_flat1 {p : Bool} {j : Job} (h : j.Sv) : ∀ x ∈ flat1 p j, x.Sv := by
  intro x hx
  cases j with
  | step i =>
    simp [flat1] at hx
    rw [hx]
    exact h
  | mul c n j =>
    simp [flat1] at hx
    rw [hx]
    exact h
  | grp q js =>
    unfold flat1 at hx
    simp only at hx
    split at hx
    · rw [Job.Sv] at h
      exact svL_iff.mp h x hx
    · split at hx
      · cases hx
      · rw [List.mem_singleton] at hx
        rw [hx]
        exact h
theorem sv_unPart {q : Job × Nat} (h : q.1.Sv) : (unPart q).Sv := by
  unfold unPart
  split
  · exact h
  · rw [Job.Sv]
    exact h
theorem sv_grouped {js : List Job} (h : ∀ j ∈ js, j.Sv) : ∀ x ∈ grouped js, x.Sv := by
  intro x hx
  unfold grouped at hx
  obtain ⟨q, hq, rfl⟩ := List.mem_map.mp hx
  obtain ⟨j, hj, e⟩ := gather_from hq
  refine sv_unPart ?_
  rw [e]
  have hs := h j hj
  cases j with
  | step i => exact hs
  | grp p js => exact hs
  | mul c n k =>
    cases c with
    | false => exact hs
    | true =>
      rw [Job.Sv] at hs
      exact hs
theorem sv_tidyParts {p : Bool} {js : List Job} (h : ∀ j ∈ js, j.Sv) : (tidyParts p js).Sv := by
  have h1 : ∀ x ∈ js.flatMap (flat1 p), x.Sv := fun x hx => by
    obtain ⟨j, hj, hx⟩ := List.mem_flatMap.mp hx
    exact sv_flat1 (h j hj) x hx
  have h2 : ∀ ks : List Job, (∀ j ∈ ks, j.Sv) → (close p ks).Sv := fun ks hk => by
    unfold close
    split
    · simp [Job.Sv, Job.SvL]
    · exact hk _ (by simp)
    · rw [Job.Sv]
      exact svL_iff.mpr hk
  unfold tidyParts
  split
  · exact h2 _ (sv_grouped h1)
  · exact h2 _ h1
theorem sv_tidyMul {c : Bool} {n : Nat} {t : Job} (h : t.Sv) : (tidyMul c n t).Sv := by
  unfold tidyMul
  split
  · simp [Job.Sv, Job.SvL]
  · split
    · split
      · simp only [Job.Sv] at h ⊢
        exact h
      · split
        · exact h
        · rw [Job.Sv]
          exact h
    · split
      · exact h
      · rw [Job.Sv]
        exact h
theorem sv_tidy : ∀ j : Job, j.Sv → j.tidy.Sv := by
  intro j
  induction j using Job.ind with
  | h1 i => intro h; rw [Job.tidy]; exact h
  | h2 p js ih =>
    intro h
    rw [Job.Sv] at h
    rw [Job.tidy, tidyL_map]
    refine sv_tidyParts fun x hx => ?_
    obtain ⟨j, hj, rfl⟩ := List.mem_map.mp hx
    exact ih j hj (svL_iff.mp h j hj)
  | h3 c n j ih =>
    intro h
    rw [Job.Sv] at h
    rw [Job.tidy]
    exact sv_tidyMul (ih h)
theorem good_nil : Job.nil.Good := by simp [Job.Good, Job.GoodL, Job.stepsL]
theorem tf_good {j : Job} (t : j.Tf) (h : j.Sv) (s : j.steps ≤ maxN) : j.Good := by
  rcases t with t | t
  · rw [t]
    exact good_nil
  · exact tn_good j t h s
theorem good_tidy {j : Job} (h : j.Good) : j.tidy.Good := tf_good (tidy_form j) (sv_tidy j (good_sv j h)) (by rw [steps_tidy]; exact good_steps h)
/-! ### what a step leaves -/
mutual
theorem good_left : ∀ (j : Job) (c : List Nat) (v : Int), j.Ch c v → j.Good → (j.left c).Good
  | .step i, c, v, h, g => by rw [Job.left]; exact good_nil
  | .grp p js, [], v, h, g => by rw [Job.Ch] at h; exact h.elim
  | .grp p js, i :: c, v, h, g => by
    rw [Job.Ch] at h
    rw [Job.Good] at g
    have h1 := left_stepsL p js i c v h
    rw [Job.left, Job.Good]
    exact ⟨by omega, good_leftL p js i c v h g.2⟩
  | .mul c n j, [], v, h, g => by rw [Job.Ch] at h; exact h.elim
  | .mul c n j, i :: d, v, h, g => by
    rw [Job.Ch] at h
    rw [Job.Good] at g
    have h1 := left_steps j d v h.2.2
    have h2 := good_left j d v h.2.2 g.2.2
    have h3 : (n - 1) * j.steps + j.steps = n * j.steps := by
      obtain ⟨m, rfl⟩ : ∃ m, n = m + 1 := ⟨n - 1, by omega⟩
      rw [Nat.add_sub_cancel, Nat.add_mul, Nat.one_mul]
    rw [Job.left, Job.Good, Job.stepsL, Job.stepsL, Job.stepsL, Job.steps, Job.GoodL, Job.GoodL, Job.GoodL, Job.Good]
    exact ⟨by omega, h2, ⟨by omega, by omega, g.2.2⟩, trivial⟩
theorem good_leftL : ∀ (p : Bool) (js : List Job) (i : Nat) (c : List Nat) (v : Int), Job.ChL p js i c v → Job.GoodL js → Job.GoodL (Job.leftL p js i c)
  | p, [], i, c, v, h, g => by rw [Job.ChL] at h; exact h.elim
  | p, j :: js, 0, c, v, h, g => by
    rw [Job.ChL] at h
    rw [Job.GoodL] at g
    rw [Job.leftL, Job.GoodL]
    exact ⟨good_left j c v h g.1, g.2⟩
  | p, j :: js, i + 1, c, v, h, g => by
    rw [Job.ChL] at h
    rw [Job.GoodL] at g
    have ih := good_leftL p js i c v h.2 g.2
    rw [Job.leftL]
    split
    · rw [Job.GoodL]
      exact ⟨g.1, ih⟩
    · exact ih
end
mutual
theorem depth_left : ∀ (j : Job) (c : List Nat) (v : Int), j.Ch c v → (j.left c).depth ≤ j.depth + 1
  | .step i, c, v, h => by rw [Job.left]; simp [Job.depth, Job.depths]
  | .grp p js, [], v, h => by rw [Job.Ch] at h; exact h.elim
  | .grp p js, i :: c, v, h => by
    rw [Job.Ch] at h
    have h1 := depth_leftL p js i c v h
    rw [Job.left, Job.depth, Job.depth]
    omega
  | .mul c n j, [], v, h => by rw [Job.Ch] at h; exact h.elim
  | .mul c n j, i :: d, v, h => by
    rw [Job.Ch] at h
    have h1 := depth_left j d v h.2.2
    rw [Job.left]
    simp only [Job.depth, Job.depths]
    omega
theorem depth_leftL : ∀ (p : Bool) (js : List Job) (i : Nat) (c : List Nat) (v : Int), Job.ChL p js i c v → Job.depths (Job.leftL p js i c) ≤ Job.depths js + 1
  | p, [], i, c, v, h => by rw [Job.ChL] at h; exact h.elim
  | p, j :: js, 0, c, v, h => by
    rw [Job.ChL] at h
    have h1 := depth_left j c v h
    rw [Job.leftL, Job.depths, Job.depths]
    omega
  | p, j :: js, i + 1, c, v, h => by
    rw [Job.ChL] at h
    have ih := depth_leftL p js i c v h.2
    rw [Job.leftL]
    split
    · rw [Job.depths, Job.depths]
      omega
    · rw [Job.depths]
      omega
end
theorem depth_pos (j : Job) : 1 ≤ j.depth := by cases j <;> simp [Job.depth]
mutual
theorem nodes_left (D : Nat) : ∀ (j : Job) (c : List Nat) (v : Int), j.Ch c v → j.depth ≤ D → (j.left c).nodes ≤ j.nodes * D
  | .step i, c, v, h, hd => by
    have := depth_pos (.step i)
    rw [Job.left]
    simp only [Job.nodes, Job.nodesL, Nat.one_mul]
    omega
  | .grp p js, [], v, h, _ => by rw [Job.Ch] at h; exact h.elim
  | .grp p js, i :: c, v, h, hd => by
    rw [Job.Ch] at h
    rw [Job.depth] at hd
    have h1 := nodes_leftL D p js i c v h (by omega)
    rw [Job.left, Job.nodes, Job.nodes, Nat.add_mul, Nat.one_mul]
    omega
  | .mul c n j, [], v, h, _ => by rw [Job.Ch] at h; exact h.elim
  | .mul c n j, i :: d, v, h, hd => by
    rw [Job.Ch] at h
    rw [Job.depth] at hd
    obtain ⟨E, rfl⟩ : ∃ E, D = E + 1 := ⟨D - 1, by omega⟩
    have h1 := nodes_left E j d v h.2.2 (by omega)
    have h2 := depth_pos j
    rw [Job.left]
    simp only [Job.nodes, Job.nodesL, Nat.add_mul, Nat.one_mul, Nat.mul_add, Nat.mul_one]
    omega
theorem nodes_leftL (D : Nat) : ∀ (p : Bool) (js : List Job) (i : Nat) (c : List Nat) (v : Int), Job.ChL p js i c v → Job.depths js ≤ D → Job.nodesL (Job.leftL p js i c) ≤ Job.nodesL js * D
  | p, [], i, c, v, h, _ => by rw [Job.ChL] at h; exact h.elim
  | p, j :: js, 0, c, v, h, hd => by
    rw [Job.ChL] at h
    rw [Job.depths] at hd
    have h1 := nodes_left D j c v h (by omega)
    have h2 := depth_pos j
    have h3 : Job.nodesL js * 1 ≤ Job.nodesL js * D := Nat.mul_le_mul_left _ (by omega)
    rw [Job.leftL, Job.nodesL, Job.nodesL, Nat.add_mul]
    omega
  | p, j :: js, i + 1, c, v, h, hd => by
    rw [Job.ChL] at h
    rw [Job.depths] at hd
    have ih := nodes_leftL D p js i c v h.2 (by omega)
    have h2 := depth_pos j
    have h3 : j.nodes * 1 ≤ j.nodes * D := Nat.mul_le_mul_left _ (by omega)
    rw [Job.leftL]
    split
    · rw [Job.nodesL, Job.nodesL, Nat.add_mul]
      omega
    · rw [Job.nodesL, Nat.add_mul]
      omega
end
/-! ### what is held while k steps may still come -/
structure Held (k : Nat) (j : Job) : Prop where
  good : j.Good
  nodes : j.nodes ≤ 69
  depth : j.depth ≤ 6
  steps : j.steps ≤ 1000000000000000000
  w : wP.Pt k j ≤ 43
  d : dP.Pt k j ≤ 6
theorem Held.step {k : Nat} {j : Job} {c : List Nat} {v : Int} (h : Held (k + 1) j) (hc : j.Ch c v) : Held k (j.left c).tidy := by
  have b1 := Pot.below_tidy (T := wP) (k := k) (j.left c)
  have b2 := Pot.below_left (T := wP) (k := k) j c v hc
  have b3 := Pot.below_tidy (T := dP) (k := k) (j.left c)
  have b4 := Pot.below_left (T := dP) (k := k) j c v hc
  have t := tidy_form (j.left c)
  have n1 := tf_nodes k t
  have n2 := tf_depth k t
  have s1 := left_steps j c v hc
  have s2 := steps_tidy (j.left c)
  have := h.w
  have := h.d
  have := h.steps
  have w1 := Nat.le_trans b1.1 b2.1
  have w2 := Nat.le_trans b3.1 b4.1
  exact ⟨good_tidy (good_left j c v hc h.good), by omega, by omega, by omega, by omega, by omega⟩
/-- raw jobs by their depth -/
structure Raw (d : Nat) (w n e D s : Nat) (j : Job) : Prop where
  good : j.Good
  w : wP.Pt 4 j ≤ w
  n : j.nodes ≤ n
  e : dP.Pt 4 j ≤ e
  D : j.depth ≤ D
  s : j.steps ≤ s
end RP
end
section
set_option maxHeartbeats 4000000
namespace RP
open PySem PySem.Spec PyProof.Rows L2
section
variable {P : Program} {w : World} {K : PySem.W.Frag} {mg : Str → Option Value} {base : Heap} {Γ : List Sl} {te : TE} {E : XK}
theorem SemT.cast {t : TT} {a b : Bool} (h : SemT K Γ t a) (e : a = b) : SemT K Γ t b := e ▸ h
theorem st_nodeI {i : Int} (h : Sem K Γ te (.d (.int i))) : SemT K Γ (tB (tCall (spF K pr_is_node) [] E (tCons te tNil))) false := semt_B (sem_call (sema_cons h sema_nil) ⟨_, rfl, .inl ⟨_, rfl, rfl⟩⟩)
theorem st_nodeT {ds : List PyData} (h : Sem K Γ te (.d (.tuple ds))) : SemT K Γ (tB (tCall (spF K pr_is_node) [] E (tCons te tNil))) true := semt_B (sem_call (sema_cons h sema_nil) ⟨_, rfl, .inr ⟨⟨_, rfl⟩, rfl⟩⟩)
theorem st_node0 {x : PyData} (h : Sem K Γ te (.d x)) : ∀ j : Job, x = j.data → SemT K Γ (tB (tCall (spF K pr_is_node) [] E (tCons te tNil))) (match j with | .step _ => false | _ => true)
  | .step i, e => by subst e; exact st_nodeI h
  | .grp p js, e => by subst e; exact st_nodeT h
  | .mul c n j, e => by subst e; exact st_nodeT h
/-- tuple(a list) -/
theorem cvd_tupleL {ds : List PyData} : CvD K (fun xs H Q => ∃ p ys, xs = [.ref p] ∧ ((SqL K H p ys ∧ ∀ l, H l = none → Q (.ref l) (upd H l (.tup ys))) ∨ (SqT K H p ys ∧ Q (.ref p) H))) [.s ds] (.d (.tuple ds)) := fun H vs Q a q => by
  match vs, a with
  | [v], ⟨h1, _⟩ =>
    obtain ⟨p, xs, rfl, ht, hl⟩ := h1
    exact ⟨p, xs, rfl, .inl ⟨SqL.of ht, fun l hl2 => q _ _ (same_new hl2) (.tup (.inl upd_same) (DtL.keep (TK.of (same_new hl2)) hl))⟩⟩
theorem cvd_lenL' {ds : List PyData} {n : Int} (h : (ds.length : Int) = n) : CvD K (fun xs H Q => ∃ p ys, xs = [.ref p] ∧ (SqL K H p ys ∨ SqT K H p ys) ∧ Q (.int ys.length) H) [.s ds] (.d (.int n)) := h ▸ cvd_lenL
theorem rvd_neL' {ds es : List PyData} {b : Bool} (hx : SeqAt.shaped (.list ds) = true) (hy : SeqAt.shaped (.list es) = true) (h : (!PyData.eqv (.list ds) (.list es)) = b) : RvD K (rNeD K) (.s ds) (.l es) (.d (.bool b)) := h ▸ rvd_neL hx hy
theorem gw_eq (p q : Bool) : decide ((gw p : Str) = gw q) = (p == q) := by cases p <;> cases q <;> decide +kernel
theorem mw_eq (p q : Bool) : decide ((mw p : Str) = mw q) = (p == q) := by cases p <;> cases q <;> decide +kernel
theorem mw_gw (p q : Bool) : decide ((mw p : Str) = gw q) = false := by cases p <;> cases q <;> decide +kernel
theorem gw_mw (p q : Bool) : decide ((gw p : Str) = mw q) = false := by cases p <;> cases q <;> decide +kernel
theorem gw_par (p : Bool) : decide ((gw p : Str) = ("par" : Str)) = p := by cases p <;> decide +kernel
theorem gw_seq (p : Bool) : decide ((gw p : Str) = ("seq" : Str)) = !p := by cases p <;> decide +kernel
theorem sh_nil : SeqAt.shaped Job.nil.data = true := shaped_job (by decide +kernel)
theorem sh_lnil : SeqAt.shaped (.list []) = true := by decide +kernel
theorem mem_flat1 {p : Bool} {j x : Job} (h : x ∈ flat1 p j) : x.depth ≤ j.depth := by
  cases j with
  | step i => simp [flat1] at h; rw [h]; exact Nat.le_refl _
  | mul c n k => simp [flat1] at h; rw [h]; exact Nat.le_refl _
  | grp q js =>
    unfold flat1 at h
    simp only at h
    split at h
    · have := mem_depths h
      rw [Job.depth]
      omega
    · split at h
      · cases h
      · rw [List.mem_singleton] at h
        rw [h]
        exact Nat.le_refl _
theorem flat_take {p : Bool} {js : List Job} {i : Nat} {j : Job} (h : js[i]? = some j) : (js.take (i + 1)).flatMap (flat1 p) = (js.take i).flatMap (flat1 p) ++ flat1 p j := by
  rw [List.take_add_one, h, List.flatMap_append]
  simp
theorem sem_close {Γ : List Sl} {p : Bool} {fs : List Job} (h0 : Γ[0]? = some (.d (.str (gw p)))) (h2 : Γ[2]? = some (.l (fs.map Job.data))) (hl : fs.length ≤ 1000) (hd : ∀ j ∈ fs, j.depth ≤ 30) (T : Tx K mg) : SemB K Γ
    (tSeq (tIfS (tTest (tOp rEq (tCB (fun xs H Q => ∃ p ys, xs = [.ref p] ∧ (SqL K H p ys ∨ SqT K H p ys) ∧ Q (.int ys.length) H) (tCons (tVar 2) tNil)) (tC (.int 1)))) (tRet (tOp (rIxL K) (tVar 2) (tC (.int 0)))) tNext)
      (tRet (tIf (tTest (tOp (rNeD K) (tVar 2) (tLst tNil))) (tTup (tCons (tVar 0) (tCons (tCB (fun xs H Q => ∃ p ys, xs = [.ref p] ∧ ((SqL K H p ys ∧ ∀ l, H l = none → Q (.ref l) (upd H l (.tup ys))) ∨ (SqT K H p ys ∧ Q (.ref p) H))) (tCons (tVar 2) tNil)) tNil))) (tC (.ref (He.ga K "EMPTY_jobs")))))) (.rt (.d (close p fs).data)) := by
  match fs, h2, hl, hd with
  | [], h2, _, _ =>
    refine semb_seq (semb_if (b := false) (semt_T (sem_op (sem_cb (sema_cons (sem_varL h2) sema_nil) (cvd_lenL' rfl)) sem_int (rvd_eqI' (decide_eq_false (by decide))))) (fun z => by cases z) fun _ => semb_next) ?_
    exact semb_ret (sem_if (b := false) (semt_T (sem_op (sem_varL h2) (sem_lst (ds := []) sema_nil (by decide)) (rvd_neL' sh_lnil sh_lnil (by decide +kernel)))) (fun z => by cases z) fun _ => sem_k T.k_EMPTY_jobs)
  | [x], h2, _, _ =>
    exact semb_seqR (semb_if (b := true) (semt_T (sem_op (sem_cb (sema_cons (sem_varL h2) sema_nil) (cvd_lenL' rfl)) sem_int (rvd_eqI' (decide_eq_true rfl)))) (fun _ => semb_ret (sem_op (sem_varL h2) sem_int (rvd_ixL rfl))) fun z => by cases z)
  | x :: y :: r, h2, hl, hd =>
    refine semb_seq (semb_if (b := false) (semt_T (sem_op (sem_cb (sema_cons (sem_varL h2) sema_nil) cvd_lenL) sem_int (rvd_eqI' (decide_eq_false (by rw [List.length_map, List.length_cons, List.length_cons]; omega))))) (fun z => by cases z) fun _ => semb_next) ?_
    refine semb_ret (sem_if (b := true) (semt_T (sem_op (sem_varL h2) (sem_lst (ds := []) sema_nil (by decide)) (rvd_neL' (shaped_jobs hd) sh_lnil ?_))) (fun _ => ?_) fun z => by cases z)
    · simp [PyData.eqv, PyData.eqvAll]
    · show Sem K Γ _ (.d (.tuple [.str (gw p), .tuple (Job.datas (x :: y :: r))]))
      rw [datas_map]
      exact sem_tup (ds := [_, _]) (sema_cons (sem_var h0) (sema_cons (sem_cb (sema_cons (sem_varL h2) sema_nil) cvd_tupleL) sema_nil)) (by simp)
def pr_tidy_parts : List Rk → Rk → Prop := fun rs r => ∃ (p : Bool) (js : List Job), rs = [.d (.str (gw p)), .s (js.map Job.data)] ∧ r = .d (tidyParts p js).data ∧ Job.nodesL js ≤ 1000 ∧ ∀ j ∈ js, j.depth ≤ 29
theorem w_tidy_parts (T : Tx K mg) : Df P w K mg base CX0 3 "tidy_parts" p_tidy_parts (spF K pr_tidy_parts) := by
  have g_is_node := w_is_node (P := P) (w := w) (base := base) T
  have g_grouped := w_grouped (P := P) (w := w) (base := base) T
  refine df_sem (N := n_tidy_parts) (k := 2) T.f_tidy_parts (fun _ _ _ _ _ _ us hl => match us, hl with | [_, _], _ => rfl) sc_tidy_parts (fun rs r h => by obtain ⟨p, js, rfl, _⟩ := h; rfl) ?_
  intro rs r h f cdv A outer s H E hr
  refine ⟨_, (pss_cons (ps_set (i := 2) sc_tidy_parts.nd rfl (Or.inl rfl) (pe_lst pa_nil))
    (pss_cons (ps_for PassesOwn.never rfl (pi_list (pv 1)) (pg_name (i := 3) sc_tidy_parts.nd rfl (Or.inl rfl)) (pss_one (ps_if (PW.pt (pw_and (pt_val (pe_df g_is_node hr (by omega) pass0 rfl (pa_cons (pv 3) pa_nil))) (pw_and1 (pt_cmpR op_eq (pe_ix ix_tup (pv 3) pe_int (fun _ _ => rfl)) (pv 0) (nomark _))))) (pss_one (ps_expr (pe_bm PySem.F.plainAttrs_list PySem.F.slot_list_extend PySem.F.type_list_extend mt_extendT (pv 2) (pa_cons (pe_ix ix_tup (pv 3) pe_int (fun _ _ => rfl)) pa_nil)))) (pss_one (ps_if (pt_cmpR (op_neD hr.units) (pv 3) (pe_gref rfl T.c_EMPTY_jobs) (nomark _)) (pss_one (ps_expr (pe_bm PySem.F.plainAttrs_list PySem.F.slot_list_append PySem.F.type_list_append mt_append (pv 2) (pa_cons (pv 3) pa_nil)))) pss_nil)))))
    (pss_cons (ps_if (pt_cmpR op_eq (pv 0) pe_str (nomark _)) (pss_one (ps_set (i := 2) sc_tidy_parts.nd rfl (Or.inl rfl) (pe_df g_grouped hr (by omega) pass0 rfl (pa_cons (pv 2) pa_nil)))) pss_nil)
    (pss_cons (ps_if (pt_cmpR op_eq (pe_callB call_len_seq rfl T.b_len (by decide +kernel) (pa_cons (pv 2) pa_nil)) pe_int (nomark _)) (pss_one (ps_ret (pe_ix ix_list (pv 2) pe_int (fun _ _ => rfl)))) pss_nil)
    (pss_one (ps_ret (pe_ifExp (pt_cmpR (op_neD hr.units) (pv 2) (pe_lst pa_nil) (nomark _)) (pe_tup (pa_cons (pv 0) (pa_cons (pe_callTy call_tuple_of rfl T.b_tuple (by decide +kernel) (pa_cons (pv 2) pa_nil)) pa_nil))) (pe_gref rfl T.c_EMPTY_jobs)))))))), ?_⟩
  obtain ⟨p, js, rfl, rfl, hn, hd⟩ := h
  refine ⟨.rt (.d (tidyParts p js).data), ?_, .inl rfl⟩
  let fs : Nat → List Job := fun i => (js.take i).flatMap (flat1 p)
  let Γs : Nat → List Sl := fun i => [.d (.str (gw p)), .f (js.map Job.data), .l ((fs i).map Job.data), .un]
  have hfl : ∀ i, (fs i).length ≤ 1000 := fun i => by
    have h1 := len_nodesL (fs i)
    have h2 : Job.nodesL (fs i) ≤ Job.nodesL (js.take i) := nodes_flat p _
    have h3 := nodesL_le js i
    omega
  have hfd : ∀ i, ∀ j ∈ fs i, j.depth ≤ 29 := fun i j hj => by
    obtain ⟨x, hx, hj⟩ := List.mem_flatMap.mp hj
    exact Nat.le_trans (mem_flat1 hj) (hd x (List.mem_of_mem_take hx))
  refine semb_seq (semb_set (sem_lst (ds := []) sema_nil (by decide))) ?_
  refine semb_seq (Γ1 := Γs (js.map Job.data).length) (semb_for (xs := js.map Job.data) Γs (semi_in rfl) fun i x hx => ?_) ?_
  · rw [List.getElem?_map] at hx
    obtain ⟨j, hj, rfl⟩ := Option.map_eq_some_iff.mp hx
    have hmem := List.mem_of_getElem? hj
    have hjd := Nat.le_succ_of_le (hd j hmem)
    have e1 : fs (i + 1) = fs i ++ flat1 p j := flat_take hj
    have hlen := hfl (i + 1)
    rw [e1, List.length_append] at hlen
    refine ⟨_, _, semg_name, .inl ?_⟩
    have app : flat1 p j = [j] → j ≠ Job.nil → SemB K [.d (.str (gw p)), .f (js.map Job.data), .l ((fs i).map Job.data), .d j.data]
        (tIfS (tTest (tOp (rNeD K) (tVar 3) (tC (.ref (He.ga K "EMPTY_jobs"))))) (tDrop (tBM K "list" rAppend (tVar 2) (tCons (tVar 3) tNil))) tNext) (.nx (Γs (i + 1))) := fun e ne => by
      refine semb_if (b := true) (semt_T (sem_op (sem_var rfl) (sem_k T.k_EMPTY_jobs) (rvd_neD' (shaped_job hjd) sh_nil ?_))) (fun _ => ?_) fun z => by cases z
      · show (!PyData.eqv j.data Job.nil.data) = true
        rw [eqv_job, decide_eq_false ne]
        rfl
      · refine SemB.weak (semb_append rfl (sem_var rfl) (by rw [List.length_map]; omega)) (.eq rfl (.eq rfl (.eq ?_ (.un .nil))))
        show Sl.l ((fs (i + 1)).map Job.data) = _
        rw [e1, e, List.map_append]
        rfl
    cases j with
    | step z => exact semb_if (b := false) (semt_and (a := false) (b := true) (st_nodeI (sem_var rfl)) fun z => by cases z) (fun z => by cases z) fun _ => app rfl (by intro z; cases z)
    | mul c n k => exact semb_if (b := false) (semt_and (a := true) (b := false) (st_nodeT (sem_var rfl)) fun _ => semt_T (sem_op (sem_op (sem_var rfl) sem_int (rvd_ixT rfl)) (sem_var rfl) (rvd_eqS' (mw_gw c p)))) (fun z => by cases z) fun _ => app rfl (by intro z; cases z)
    | grp q ks =>
      refine semb_if (b := (q == p)) (semt_and (a := true) (b := (q == p)) (st_nodeT (sem_var rfl)) fun _ => semt_T (sem_op (sem_op (sem_var rfl) sem_int (rvd_ixT rfl)) (sem_var rfl) (rvd_eqS' (gw_eq q p)))) (fun e => ?_) fun e => ?_
      · have eq : q = p := by simpa using e
        subst eq
        have e2 : flat1 q (.grp q ks) = ks := by simp [flat1]
        refine SemB.weak (semb_extendT rfl (sem_op (sem_var rfl) sem_int (rvd_ixT (x := .tuple (Job.datas ks)) rfl)) (by rw [List.length_map, datas_len]; rw [e2] at hlen; omega)) (.eq rfl (.eq rfl (.eq ?_ (.un .nil))))
        show Sl.l ((fs (i + 1)).map Job.data) = _
        rw [e1, e2, List.map_append, datas_map]
      · have ne : ¬ q = p := by simpa using e
        by_cases e0 : Job.grp q ks = .nil
        · have e2 : flat1 p (.grp q ks) = [] := by
            cases e0
            simp [flat1, ne]
          refine SemB.weak (semb_if (b := false) (semt_T (sem_op (sem_var rfl) (sem_k T.k_EMPTY_jobs) (rvd_neD' (shaped_job hjd) sh_nil ?_))) (fun z => by cases z) fun _ => semb_next) (.eq rfl (.eq rfl (.eq ?_ (.un .nil))))
          · show (!PyData.eqv (Job.grp q ks).data Job.nil.data) = false
            rw [eqv_job, decide_eq_true e0]
            rfl
          · show Sl.l ((fs (i + 1)).map Job.data) = _
            rw [e1, e2, List.append_nil]
        · refine app ?_ e0
          have : ¬ (q = false ∧ ks = []) := fun z => e0 (by rw [z.1, z.2])
          simp [flat1, ne, this]
  · have e1 : fs (js.map Job.data).length = js.flatMap (flat1 p) := by
      show (js.take (js.map Job.data).length).flatMap (flat1 p) = _
      rw [List.length_map, List.take_length]
    have hl := hfl (js.map Job.data).length
    have hdd := hfd (js.map Job.data).length
    show SemB K [.d (.str (gw p)), .f (js.map Job.data), .l ((fs (js.map Job.data).length).map Job.data), .un] _ _
    rw [e1] at hl hdd ⊢
    generalize js.flatMap (flat1 p) = gs at hl hdd e1 ⊢
    have e3 : (js.flatMap (flat1 p)) = gs := by rw [← e1]; show _ = (js.take (js.map Job.data).length).flatMap (flat1 p); rw [List.length_map, List.take_length]
    unfold tidyParts
    rw [e3]
    cases p with
    | false =>
      refine semb_seq (semb_if (b := false) (semt_T (sem_op (sem_var rfl) sem_str (rvd_eqS' (gw_par false)))) (fun z => by cases z) fun _ => semb_next) ?_
      exact sem_close rfl rfl hl (fun j hj => Nat.le_succ_of_le (hdd j hj)) T
    | true =>
      refine semb_seq (semb_if (b := true) (semt_T (sem_op (sem_var rfl) sem_str (rvd_eqS' (gw_par true)))) (fun _ => semb_set (sem_call (sema_cons (sem_varL rfl) sema_nil) ⟨gs, rfl, rfl, hl, fun j hj => Nat.le_succ_of_le (hdd j hj)⟩)) fun z => by cases z) ?_
      rw [if_pos rfl]
      refine sem_close (Γ := [_, _, .l ((RP.grouped gs).map Job.data), _]) rfl rfl ?_ (fun j hj => ?_) T
      · unfold RP.grouped
        rw [List.length_map]
        have := gather_le gs
        omega
      · unfold RP.grouped at hj
        obtain ⟨q, hq, rfl⟩ := List.mem_map.mp hj
        obtain ⟨x, hx, e⟩ := gather_from hq
        have h1 := ofPart_depth x
        have h2 := hdd x hx
        rw [← e] at h1
        unfold unPart
        split
        · omega
        · rw [Job.depth]
          omega
theorem semb_par3 {ta tb tc : TE} {i j l : Nat} {r s u : Rk} (ha : Sem K Γ ta r) (hb : Sem K Γ tb s) (hc : Sem K Γ tc u) : SemB K Γ (tPar3 i j l (tCons ta (tCons tb (tCons tc tNil)))) (.nx (((Γ.set i r.sl).set j s.sl).set l u.sl)) := fun H0 σ H D rp q =>
  ha H0 σ H _ rp fun v H1 e1 a1 => hb H0 σ H1 _ (rp.mono e1) fun w H2 e2 a2 => hc H0 σ H2 _ (rp.mono (e1.trans e2)) fun z H3 e3 a3 => ⟨v, w, z, rfl, by
    have rp1 := rp.store e1 a1 i
    have rp2 := rp1.store (r := s) e2 a2 j
    exact q _ H3 (rp2.store (r := u) e3 a3 l)⟩
def pr_tidy_by (L : Nat) : List Rk → Rk → Prop := fun rs r => ∃ j : Job, rs = [.d j.data] ∧ r = .d j.tidy.data ∧ j.depth ≤ L ∧ j.depth ≤ 14 ∧ j.nodes ≤ 1000 ∧ j.Good
theorem b_tidy_by : ∀ (kV doc pm : Value) (an : Option Addr) (cdv ct : Value) (us : List Value), us.length = p_tidy_by.length → bindArgs (PySem.W.fnOf "tidy_by" "tidy_by" (defArgs s_tidy_by) (defBody s_tidy_by) (defScope s_tidy_by) .none kV doc pm an cdv ct) ⟨us, []⟩ = pure (p_tidy_by.zip us) :=
  fun _ _ _ _ _ _ us hl => match us, hl with | [_], _ => rfl
theorem w_tidy_by (T : Tx K mg) : ∀ L : Nat, Df P w K mg base CX0 (L + 4) "tidy_by" p_tidy_by (spF K (pr_tidy_by L))
  | 0 => df_none T.f_tidy_by b_tidy_by fun rs r h => by
    obtain ⟨j, _, _, h1, _⟩ := h
    have hd1 := depth_pos j
    omega
  | L + 1 => by
    have g_tidy_by := w_tidy_by T L
    have g_tidy_parts := w_tidy_parts (P := P) (w := w) (base := base) T
    have g_is_node := w_is_node (P := P) (w := w) (base := base) T
    refine df_sem (N := n_tidy_by) (k := L + 4) T.f_tidy_by b_tidy_by sc_tidy_by (fun rs r h => by obtain ⟨j, rfl, _⟩ := h; rfl) ?_
    intro rs r h f cdv A outer s H E hr
    refine ⟨_, (pss_cons (ps_if (pt_not (pt_val (pe_df g_is_node hr (by omega) pass0 rfl (pa_cons (pv 0) pa_nil)))) (pss_one (ps_ret (pv 0))) pss_nil)
    (pss_cons (ps_if (pt_cmpR op_in_seq (pe_ix ix_tup (pv 0) pe_int (fun _ _ => rfl)) (pe_gref rfl T.c_GROUPS) (by rfl)) (pss_one (ps_ret (pe_df g_tidy_parts hr (by omega) pass0 rfl (pa_cons (pe_ix ix_tup (pv 0) pe_int (fun _ _ => rfl)) (pa_cons (pe_lc (own := [("part", 4)]) (g := (gName 4)) (tt := tYes) rfl sc_tidy_by.nd (pi_tup (pe_ix ix_tup (pv 0) pe_int (fun _ _ => rfl))) (blkOk_by (own := [("part", 4)]) (N := n_tidy_by) (sc := defScope s_tidy_by) (by decide +kernel)) (fun _ _ _ _ _ => (pg_name (i := 4) sc_tidy_by.nd rfl (Or.inl rfl))) (fun _ _ _ _ _ => pts_nil) (fun _ _ _ _ _ => (pe_df g_tidy_by hr (by omega) pass0 rfl (pa_cons (pv 4) pa_nil)))) pa_nil))))) pss_nil)
    (pss_cons (ps_par3 (i := 1) (j := 2) (l := 3) rfl sc_tidy_by.nd rfl rfl rfl (by decide) (by decide) (by decide) rfl rfl rfl (pa_cons (pe_ix ix_tup (pv 0) pe_int (fun _ _ => rfl)) (pa_cons (pe_ix ix_tup (pv 0) pe_int (fun _ _ => rfl)) (pa_cons (pe_df g_tidy_by hr (by omega) pass0 rfl (pa_cons (pe_ix ix_tup (pv 0) pe_int (fun _ _ => rfl)) pa_nil)) pa_nil))) (by rfl))
    (pss_cons (ps_if (PW.pt (pw_or (pt_cmpR op_eq (pv 2) pe_int (nomark _)) (pw_or1 (pt_cmpR (op_eqD hr.units) (pv 3) (pe_gref rfl T.c_EMPTY_jobs) (nomark _))))) (pss_one (ps_ret (pe_gref rfl T.c_EMPTY_jobs))) pss_nil)
    (pss_cons (ps_if (PW.pt (pw_and (pt_val (pe_df g_is_node hr (by omega) pass0 rfl (pa_cons (pv 3) pa_nil))) (pw_and1 (pt_cmpR op_eq (pe_ix ix_tup (pv 3) pe_int (fun _ _ => rfl)) (pv 1) (nomark _))))) (pss_one (ps_ret (pe_tup (pa_cons (pv 1) (pa_cons (pe_op op_mulW (pv 2) (pe_ix ix_tup (pv 3) pe_int (fun _ _ => rfl))) (pa_cons (pe_ix ix_tup (pv 3) pe_int (fun _ _ => rfl)) pa_nil)))))) pss_nil)
    (pss_one (ps_ret (pe_ifExp (pt_cmpR op_eq (pv 2) pe_int (nomark _)) (pv 3) (pe_tup (pa_cons (pv 1) (pa_cons (pv 2) (pa_cons (pv 3) pa_nil)))))))))))), ?_⟩
    obtain ⟨j, rfl, rfl, hL, h14, hn, hg⟩ := h
    refine ⟨.rt (.d j.tidy.data), ?_, .inl rfl⟩
    cases j with
    | step i => exact semb_seqR (semb_if (b := true) (semt_not (b := false) (st_nodeI (sem_var rfl))) (fun _ => semb_ret (sem_var rfl)) fun z => by cases z)
    | grp p js =>
      rw [Job.depth] at hL h14
      rw [Job.Good] at hg
      rw [Job.nodes] at hn
      have hlen := len_nodesL js
      refine semb_seq (semb_if (b := false) (semt_not (b := true) (st_nodeT (sem_var rfl))) (fun z => by cases z) fun _ => semb_next) ?_
      refine semb_seqR (semb_if (b := true) (semt_T (sem_op (sem_op (sem_var rfl) sem_int (rvd_ixT rfl)) (sem_k T.k_GROUPS) (rvd_inW' (ws := ["seq", "par"]) rfl (in_groups p)))) (fun _ => semb_ret ?_) fun z => by cases z)
      have h3 := sem_lcM (K := K) (g := gName 4) (te := tCall (spF K (pr_tidy_by L)) [] E0 (tCons (tVar 4) tNil)) (vs := [4]) js Job.data (fun j => j.tidy.data) (semi_tup (Γ := [.d (Job.grp p js).data, .un, .un, .un, .un]) (te := tOp (rIxT K) (tVar 0) (tC (.int 1))) (xs := js.map Job.data) (sem_op (sem_var rfl) sem_int (rvd_ixT (by rw [← datas_map]; rfl)))).j (by omega) fun j hj => by
        have h1 := mem_depths hj
        have h2 := mem_nodesL hj
        exact ⟨_, _, semg_name, fun k hk => hk, sem_call (sema_cons (sem_var rfl) sema_nil) ⟨j, rfl, rfl, by omega, by omega, by omega, goodL_mem hg.2 hj⟩⟩
      have e : (js.map fun j => j.tidy.data) = (Job.tidyL js).map Job.data := by rw [tidyL_map, List.map_map]; rfl
      rw [e] at h3
      rw [Job.tidy]
      refine sem_call (sema_cons (sem_op (sem_var rfl) sem_int (rvd_ixT rfl)) (sema_consL h3 sema_nil)) ⟨p, Job.tidyL js, rfl, rfl, ?_, fun j hj => ?_⟩
      · have := nodes_tidyL js
        omega
      · rw [tidyL_map] at hj
        obtain ⟨k, hk, rfl⟩ := List.mem_map.mp hj
        have h1 := mem_depths hk
        have h2 := depth_tidy k
        omega
    | mul c n j =>
      rw [Job.depth] at hL h14
      rw [Job.Good] at hg
      rw [Job.nodes] at hn
      have h5 := depth_tidy j
      have gt := good_tidy hg.2.2
      have st := steps_tidy j
      have tf := tidy_form j
      rw [Job.tidy]
      refine semb_seq (semb_if (b := false) (semt_not (b := true) (st_nodeT (sem_var rfl))) (fun z => by cases z) fun _ => semb_next) ?_
      refine semb_seq (semb_if (b := false) (semt_T (sem_op (sem_op (sem_var rfl) sem_int (rvd_ixT rfl)) (sem_k T.k_GROUPS) (rvd_inW' (ws := ["seq", "par"]) rfl (in_groups_mw c)))) (fun z => by cases z) fun _ => semb_next) ?_
      refine semb_seq (semb_par3 (sem_op (sem_var rfl) sem_int (rvd_ixT rfl)) (sem_op (sem_var rfl) sem_int (rvd_ixT rfl)) (sem_call (sema_cons (sem_op (sem_var rfl) sem_int (rvd_ixT rfl)) sema_nil) ⟨j, rfl, rfl, by omega, by omega, by omega, hg.2.2⟩)) ?_
      generalize j.tidy = t at h5 gt st tf ⊢
      have tdep : t.depth ≤ 30 := by omega
      have z0 : decide ((n : Int) = 0) = decide (n = 0) := by
        by_cases h : n = 0
        · rw [h]; rfl
        · rw [decide_eq_false h, decide_eq_false (by omega)]
      have z1 : decide ((n : Int) = 1) = decide (n = 1) := by
        by_cases h : n = 1
        · rw [h]; rfl
        · rw [decide_eq_false h, decide_eq_false (by omega)]
      have key : ∀ {tS : TS} {o : Oc} {Γ : List Sl}, Γ[2]? = some (.d (.int (n : Int))) → Γ[3]? = some (.d t.data) → (n = 0 ∨ t = .nil → o = .rt (.d Job.nil.data)) → (¬ (n = 0 ∨ t = .nil) → SemB K Γ tS o) →
          SemB K Γ (tSeq (tIfS (tOr (tTest (tOp rEq (tVar 2) (tC (.int 0)))) (tTest (tOp (rEqD K) (tVar 3) (tC (.ref (He.ga K "EMPTY_jobs")))))) (tRet (tC (.ref (He.ga K "EMPTY_jobs")))) tNext) tS) o := fun {tS o Γ} g2 g3 hy hno => by
        have tst : SemT K Γ (tOr (tTest (tOp rEq (tVar 2) (tC (.int 0)))) (tTest (tOp (rEqD K) (tVar 3) (tC (.ref (He.ga K "EMPTY_jobs")))))) (decide (n = 0) || decide (t = .nil)) :=
          semt_or (semt_T (sem_op (sem_var g2) sem_int (rvd_eqI' z0))) fun _ => semt_T (sem_op (sem_var g3) (sem_k T.k_EMPTY_jobs) (rvd_eqD' (shaped_job tdep) sh_nil (eqv_job t .nil)))
        by_cases hc : n = 0 ∨ t = .nil
        · rw [hy hc]
          refine semb_seqR (semb_if tst (fun _ => semb_ret (sem_k T.k_EMPTY_jobs)) fun z => ?_)
          simp only [Bool.or_eq_false_iff, decide_eq_false_iff_not] at z
          exact absurd hc (by rintro (u | u); exact z.1 u; exact z.2 u)
        · refine semb_seq (semb_if tst (fun z => ?_) fun _ => semb_next) (hno hc)
          simp only [Bool.or_eq_true, decide_eq_true_eq] at z
          exact absurd z hc
      refine key rfl rfl (fun hc => by unfold tidyMul; rw [if_pos hc]) fun hc => ?_
      have hn0 : n ≠ 0 := fun z => hc (.inl z)
      have htn : t.Tn := tf.resolve_left fun z => hc (.inr z)
      unfold tidyMul
      rw [if_neg hc]
      have fin : ∀ {Γ : List Sl} {x : Job}, Γ[1]? = some (.d (.str (mw c))) → Γ[2]? = some (.d (.int (n : Int))) → Γ[3]? = some (.d x.data) → SemB K Γ (tRet (tIf (tTest (tOp rEq (tVar 2) (tC (.int 1)))) (tVar 3) (tTup (tCons (tVar 1) (tCons (tVar 2) (tCons (tVar 3) tNil)))))) (.rt (.d (if n = 1 then x else .mul c n x : Job).data)) := fun {Γ x} g1 g2 g3 => by
        refine semb_ret (sem_if (semt_T (sem_op (sem_var g2) sem_int (rvd_eqI' z1))) (fun e => ?_) fun e => ?_)
        · rw [if_pos (of_decide_eq_true e)]
          exact sem_var g3
        · rw [if_neg (of_decide_eq_false e)]
          exact sem_tup (ds := [_, _, _]) (sema_cons (sem_var g1) (sema_cons (sem_var g2) (sema_cons (sem_var g3) sema_nil))) (by simp)
      cases t with
      | step i => exact semb_seq (semb_if (b := false) (semt_and (a := false) (b := true) (st_nodeI (sem_var rfl)) fun z => by cases z) (fun z => by cases z) fun _ => semb_next) (fin rfl rfl rfl)
      | grp p js => exact semb_seq (semb_if (b := false) (semt_and (a := true) (b := false) (st_nodeT (sem_var rfl)) fun _ => semt_T (sem_op (sem_op (sem_var rfl) sem_int (rvd_ixT rfl)) (sem_var rfl) (rvd_eqS' (gw_mw p c)))) (fun z => by cases z) fun _ => semb_next) (fin rfl rfl rfl)
      | mul d m k =>
        show SemB K _ _ (.rt (.d (if d = c then Job.mul c (n * m) k else if n = 1 then Job.mul d m k else .mul c n (Job.mul d m k)).data))
        have tst : ∀ {Γ : List Sl}, Γ[1]? = some (.d (.str (mw c))) → Γ[3]? = some (.d (Job.mul d m k).data) → SemT K Γ (tAnd (tB (tCall (spF K pr_is_node) [] E0 (tCons (tVar 3) tNil))) (tTest (tOp rEq (tOp (rIxT K) (tVar 3) (tC (.int 0))) (tVar 1)))) (d == c) := fun {Γ} g1 g3 =>
          semt_and (a := true) (b := (d == c)) (st_nodeT (sem_var g3)) fun _ => semt_T (sem_op (sem_op (sem_var g3) sem_int (rvd_ixT rfl)) (sem_var g1) (rvd_eqS' (mw_eq d c)))
        by_cases e : d = c
        · rw [if_pos e]
          subst e
          refine semb_seqR (semb_if (b := true) (SemT.cast (b := true) (tst rfl rfl) (by simp)) (fun _ => semb_ret ?_) fun z => by cases z)
          have hm : m ≤ n * m ∧ n * m ≤ maxN := by
            rw [Job.Tn] at htn
            have hk := tn_steps k htn.2
            rw [Job.steps] at st
            have h6 : 1 * m ≤ n * m := Nat.mul_le_mul_right _ (by omega)
            have h7 : m * 1 ≤ m * k.steps := Nat.mul_le_mul_left _ hk
            have h8 : n * m ≤ n * (m * k.steps) := Nat.mul_le_mul_left _ (by omega)
            rw [st] at h8
            have := hg.2.1
            omega
          have hw : CMulW (n : Int) (m : Int) := mulW_ok (lt1000 (n := maxN) (by have := hg.1; omega) (by decide +kernel)) (lt1000 (n := maxN) (by omega) (by decide +kernel))
          have e2 : (Job.mul d (n * m) k).data = .tuple [.str (mw d), .int ((n : Int) * (m : Int)), k.data] := by
            rw [← Int.natCast_mul]
            rfl
          rw [e2]
          exact sem_tup (ds := [_, _, _]) (sema_cons (sem_var rfl) (sema_cons (sem_op (sem_var rfl) (sem_op (sem_var rfl) sem_int (rvd_ixT rfl)) (rvd_mul hw)) (sema_cons (sem_op (sem_var rfl) sem_int (rvd_ixT rfl)) sema_nil))) (by simp)
        · rw [if_neg e]
          exact semb_seq (semb_if (b := false) (SemT.cast (b := false) (tst rfl rfl) (by simp [e])) (fun z => by cases z) fun _ => semb_next) (fin rfl rfl rfl)
end
end RP
end
section
set_option maxHeartbeats 2000000
namespace RP
open PySem
def adD (c : List Nat) : PyData := .tuple (c.map fun i => .int (i : Nat))
def Job.at1 : Job → Nat → Job
  | .grp _ js, i => js.getD i .nil
  | .mul _ _ j, _ => j
  | .step v, _ => .step v
def Job.Inn : Job → Nat → Prop
  | .grp _ js, i => i < js.length
  | .mul _ n _, i => i < n
  | .step _, _ => False
def Pa : List Nat → Job → Int → Prop
  | [], j, v => j = .step v
  | i :: c, j, v => j.Inn i ∧ Pa c (j.at1 i) v
def walkJ (j : Job) (c : List Nat) : Job := c.foldl Job.at1 j
theorem chL_at {p : Bool} {c : List Nat} {v : Int} : ∀ {js : List Job} {i : Nat}, Job.ChL p js i c v → ∃ x, js[i]? = some x ∧ x.Ch c v
  | [], i, h => by rw [Job.ChL] at h; exact h.elim
  | j :: js, 0, h => by rw [Job.ChL] at h; exact ⟨j, rfl, h⟩
  | j :: js, i + 1, h => by
    rw [Job.ChL] at h
    obtain ⟨x, h1, h2⟩ := chL_at h.2
    exact ⟨x, by simpa using h1, h2⟩
theorem ch_pa : ∀ (c : List Nat) (j : Job) (v : Int), j.Ch c v → Pa c j v
  | [], .step i, v, h => by rw [Job.Ch] at h; rw [Pa, h.2]
  | [], .grp p js, v, h => by rw [Job.Ch] at h; exact h.elim
  | [], .mul d n j, v, h => by rw [Job.Ch] at h; exact h.elim
  | i :: c, .step x, v, h => by rw [Job.Ch] at h; cases h.1
  | i :: c, .grp p js, v, h => by
    rw [Job.Ch] at h
    obtain ⟨x, h1, h2⟩ := chL_at h
    have h3 := (List.getElem?_eq_some_iff.mp h1).1
    refine ⟨h3, ?_⟩
    show Pa c (js.getD i .nil) v
    rw [List.getD_eq_getElem?_getD, h1]
    exact ch_pa c x v h2
  | i :: c, .mul d n j, v, h => by
    rw [Job.Ch] at h
    obtain ⟨rfl, h1, h2⟩ := h
    exact ⟨h1, ch_pa c j v h2⟩
theorem pa_at : ∀ {c : List Nat} {j : Job} {v : Int} {i k : Nat}, Pa c j v → c[i]? = some k → (walkJ j (c.take i)).Inn k ∧ walkJ j (c.take (i + 1)) = (walkJ j (c.take i)).at1 k
  | [], j, v, i, k, _, e => by simp at e
  | m :: c, j, v, 0, k, h, e => by
    simp at e
    subst e
    exact ⟨h.1, rfl⟩
  | m :: c, j, v, i + 1, k, h, e => by
    have := pa_at (i := i) (k := k) h.2 (by simpa using e)
    exact this
theorem pa_end : ∀ {c : List Nat} {j : Job} {v : Int}, Pa c j v → walkJ j c = .step v
  | [], j, v, h => h
  | m :: c, j, v, h => pa_end (c := c) h.2
/-! the choices, part by part -/
def chAll : Nat → List Job → List (List Nat)
  | _, [] => []
  | n, j :: js => j.choices.map (n :: ·) ++ chAll (n + 1) js
theorem choicesL_par : ∀ (n : Nat) (js : List Job), Job.choicesL true n js = chAll n js
  | n, [] => by rw [Job.choicesL, chAll]
  | n, j :: js => by
    rw [Job.choicesL, chAll, choicesL_par]
    simp
theorem choicesL_none : ∀ (n : Nat) (js : List Job), (∀ j ∈ js, j.choices = []) → Job.choicesL false n js = [] ∧ chAll n js = []
  | n, [], _ => by rw [Job.choicesL, chAll]; exact ⟨rfl, rfl⟩
  | n, j :: js, h => by
    have ih := choicesL_none (n + 1) js fun x hx => h x (List.mem_cons_of_mem _ hx)
    have h0 := h j List.mem_cons_self
    rw [Job.choicesL, chAll, h0, ih.1, ih.2]
    simp
theorem choicesL_first : ∀ (n : Nat) (js : List Job) (k : Nat) (j : Job), js[k]? = some j → j.choices ≠ [] → (∀ i x, i < k → js[i]? = some x → x.choices = []) → Job.choicesL false n js = j.choices.map ((n + k) :: ·)
  | n, [], k, j, h, _, _ => by simp at h
  | n, x :: js, 0, j, h, ne, _ => by
    simp at h
    subst h
    rw [Job.choicesL]
    simp [ne]
  | n, x :: js, k + 1, j, h, ne, hb => by
    have h0 := hb 0 x (by omega) rfl
    have ih := choicesL_first (n + 1) js k j (by simpa using h) ne fun i y hi hy => hb (i + 1) y (by omega) (by simpa using hy)
    rw [Job.choicesL, h0, ih]
    simp only [List.map_nil, ne_eq, not_true_eq_false, and_false, if_false, List.nil_append]
    rw [show n + 1 + k = n + (k + 1) by omega]
theorem chAll_append : ∀ (n : Nat) (js ks : List Job), chAll n (js ++ ks) = chAll n js ++ chAll (n + js.length) ks
  | n, [], ks => by simp [chAll]
  | n, j :: js, ks => by
    rw [List.cons_append, chAll, chAll, chAll_append (n + 1) js ks, List.length_cons, List.append_assoc]
    rw [show n + 1 + js.length = n + (js.length + 1) by omega]
theorem chAll_take {js : List Job} {i : Nat} {j : Job} (h : js[i]? = some j) : chAll 0 (js.take (i + 1)) = chAll 0 (js.take i) ++ j.choices.map (i :: ·) := by
  have hl : i < js.length := (List.getElem?_eq_some_iff.mp h).1
  rw [List.take_add_one, h, chAll_append, List.length_take, Nat.min_eq_left (by omega), Nat.zero_add]
  simp [chAll]
/-- the first part that has a choice -/
theorem first_choice : ∀ js : List Job, (∀ j ∈ js, j.choices = []) ∨ ∃ (k : Nat) (j : Job), js[k]? = some j ∧ j.choices ≠ [] ∧ ∀ i x, i < k → js[i]? = some x → x.choices = []
  | [] => .inl (by intro j h; cases h)
  | j :: js => by
    by_cases e : j.choices = []
    · rcases first_choice js with h | ⟨k, x, h1, h2, h3⟩
      · refine .inl fun y hy => ?_
        rcases List.mem_cons.mp hy with z | z
        · rw [z]; exact e
        · exact h y z
      · refine .inr ⟨k + 1, x, by simpa using h1, h2, fun i y hi hy => ?_⟩
        cases i with
        | zero => simp at hy; rw [← hy]; exact e
        | succ i => exact h3 i y (by omega) (by simpa using hy)
    · exact .inr ⟨0, j, rfl, e, fun i x hi => absurd hi (by omega)⟩
theorem chAll_empty {js : List Job} {k : Nat} (h : ∀ i x, i < k → js[i]? = some x → x.choices = []) : chAll 0 (js.take k) = [] := by
  refine (choicesL_none 0 _ fun j hj => ?_).2
  obtain ⟨i, hi⟩ := List.mem_iff_getElem?.mp hj
  rw [List.getElem?_take] at hi
  split at hi
  · rename_i hk
    exact h i j hk hi
  · cases hi
mutual
theorem choices_len : ∀ j : Job, j.choices.length ≤ j.nodes
  | .step i => by simp [Job.choices, Job.nodes]
  | .grp p js => by
    have h := choicesL_len p 0 js
    rw [Job.choices, Job.nodes]
    omega
  | .mul c n j => by
    have h := choices_len j
    rw [Job.choices, Job.nodes]
    split
    · rw [List.length_map]
      omega
    · simp
theorem choicesL_len : ∀ (p : Bool) (n : Nat) (js : List Job), (Job.choicesL p n js).length ≤ Job.nodesL js
  | p, n, [] => by simp [Job.choicesL]
  | p, n, j :: js => by
    have h1 := choices_len j
    have h2 := choicesL_len p (n + 1) js
    rw [Job.choicesL, Job.nodesL]
    split
    · rw [List.length_map]
      omega
    · rw [List.length_append, List.length_map]
      omega
end
theorem chAll_len : ∀ (n : Nat) (js : List Job), (chAll n js).length ≤ Job.nodesL js
  | n, [] => by simp [chAll]
  | n, j :: js => by
    have h1 := choices_len j
    have h2 := chAll_len (n + 1) js
    rw [chAll, Job.nodesL, List.length_append, List.length_map]
    omega
theorem chAll_mem : ∀ (n : Nat) (js : List Job) (c : List Nat), c ∈ chAll n js → ∃ (i : Nat) (d : List Nat), c = i :: d ∧ ∃ j ∈ js, d ∈ j.choices
  | n, [], c, h => by simp [chAll] at h
  | n, j :: js, c, h => by
    rw [chAll] at h
    rcases List.mem_append.mp h with z | z
    · obtain ⟨d, hd, rfl⟩ := List.mem_map.mp z
      exact ⟨n, d, rfl, j, List.mem_cons_self, hd⟩
    · obtain ⟨i, d, e, x, hx, hd⟩ := chAll_mem (n + 1) js c z
      exact ⟨i, d, e, x, List.mem_cons_of_mem _ hx, hd⟩
mutual
theorem choice_short : ∀ (j : Job) (c : List Nat), c ∈ j.choices → c.length < j.depth
  | .step i, c, h => by
    simp [Job.choices] at h
    rw [h]
    exact Nat.lt_of_lt_of_le Nat.zero_lt_one (Nat.le_of_eq (by simp [Job.depth]))
  | .grp p js, c, h => by
    rw [Job.choices] at h
    have := choice_shortL p 0 js c h
    rw [Job.depth]
    omega
  | .mul d n j, c, h => by
    rw [Job.choices] at h
    split at h
    · obtain ⟨e, he, rfl⟩ := List.mem_map.mp h
      have := choice_short j e he
      rw [Job.depth, List.length_cons]
      omega
    · cases h
theorem choice_shortL : ∀ (p : Bool) (n : Nat) (js : List Job) (c : List Nat), c ∈ Job.choicesL p n js → c.length ≤ Job.depths js
  | p, n, [], c, h => by simp [Job.choicesL] at h
  | p, n, j :: js, c, h => by
    have here : c ∈ j.choices.map (n :: ·) → c.length ≤ Job.depths (j :: js) := fun z => by
      obtain ⟨e, he, rfl⟩ := List.mem_map.mp z
      have := choice_short j e he
      rw [Job.depths, List.length_cons]
      omega
    rw [Job.choicesL] at h
    split at h
    · exact here h
    · rcases List.mem_append.mp h with z | z
      · exact here z
      · have := choice_shortL p (n + 1) js c z
        rw [Job.depths]
        omega
end
/-! the addresses as data -/
theorem ads_eqv (c d : List Nat) : PyData.eqv (adD c) (adD d) = decide (c = d) := by
  have h : ∀ c d : List Nat, PyData.eqvAll (c.map fun i => PyData.int (i : Nat)) (d.map fun i => PyData.int (i : Nat)) = decide (c = d) := by
    intro c
    induction c with
    | nil => intro d; cases d <;> simp [PyData.eqvAll]
    | cons i c ih =>
      intro d
      cases d with
      | nil => simp [PyData.eqvAll]
      | cons k d =>
        simp only [List.map_cons, PyData.eqvAll, ih, PyData.eqv]
        by_cases e : i = k
        · subst e
          simp
        · have e2 : ¬ (i : Int) = (k : Int) := by omega
          rw [beq_eq_false_iff_ne.mpr e2]
          simp [e]
  unfold adD
  simp only [PyData.eqv]
  exact h c d
theorem ints_lay : ∀ c : List Nat, PyData.canLayAll0 (c.map fun i => PyData.int (i : Nat)) = true
  | [] => by simp [PyData.canLayAll0]
  | i :: c => by
    have := ints_lay c
    simp only [List.map_cons, PyData.canLayAll0, this, PyData.canLay0, Bool.and_self]
theorem ints_dep : ∀ c : List Nat, PyData.depthAll (c.map fun i => PyData.int (i : Nat)) ≤ 1
  | [] => by simp [PyData.depthAll]
  | i :: c => by
    have := ints_dep c
    simp only [List.map_cons, PyData.depthAll, PyData.depth]
    omega
theorem sh_ad (c : List Nat) : SeqAt.shaped (adD c) = true := by
  have h1 := ints_lay c
  have h2 := ints_dep c
  unfold SeqAt.shaped adD
  simp only [PyData.canLay0, PyData.depth, h1, Bool.true_and]
  exact decide_eq_true (by omega)
theorem sh_ads (cs : List (List Nat)) : SeqAt.shaped (.list (cs.map adD)) = true := by
  have h1 : PyData.canLayAll0 (cs.map adD) = true := by
    induction cs with
    | nil => simp [PyData.canLayAll0]
    | cons c cs ih =>
      have := ints_lay c
      simp only [List.map_cons, PyData.canLayAll0, ih, adD, PyData.canLay0, this, Bool.and_self]
  have h2 : PyData.depthAll (cs.map adD) ≤ 2 := by
    clear h1
    induction cs with
    | nil => simp [PyData.depthAll]
    | cons c cs ih =>
      have := ints_dep c
      simp only [List.map_cons, PyData.depthAll, adD, PyData.depth] at ih ⊢
      omega
  unfold SeqAt.shaped
  simp only [PyData.canLay0, PyData.depth, h1, Bool.true_and]
  exact decide_eq_true (by omega)
theorem ads_any {c : List Nat} {cs : List (List Nat)} (h : c ∈ cs) : ((cs.map adD).any fun z => PyData.eqv z (adD c)) = true := by
  rw [List.any_map, List.any_eq_true]
  exact ⟨c, h, by show PyData.eqv (adD c) (adD c) = true; rw [ads_eqv]; exact decide_eq_true rfl⟩
/-! what a step leaves of parts -/
theorem leftL_eq {p : Bool} : ∀ {js : List Job} {i : Nat} {c : List Nat} {x : Job}, js[i]? = some x → Job.leftL p js i c = (if p then js.take i else []) ++ x.left c :: js.drop (i + 1)
  | [], i, c, x, h => by simp at h
  | j :: js, 0, c, x, h => by
    simp at h
    subst h
    rw [Job.leftL]
    cases p <;> simp
  | j :: js, i + 1, c, x, h => by
    have ih := leftL_eq (p := p) (js := js) (i := i) (c := c) (x := x) (by simpa using h)
    rw [Job.leftL]
    cases p with
    | true =>
      rw [if_pos rfl] at ih
      rw [if_pos rfl, if_pos rfl, ih]
      simp
    | false =>
      rw [if_neg (by decide)] at ih
      rw [if_neg (by decide), if_neg (by decide), ih]
      simp
end RP
end
section
set_option maxHeartbeats 4000000
namespace RP
open PySem PySem.Spec PyProof.Rows L2
open Sem (wp)
/-! enumerate(a tuple) -/
set_option maxHeartbeats 1000000 in
theorem enumT_new {v : Value} {o : Obj} {G : Heap → Prop} (B : Begins v o G) :
    Meets (Builtin.«enumerate.__new__» ⟨[.type "enumerate", v], []⟩) (fun _ R s => G s.heap ∧
      R (.ok (.ret (.ref (s.heap.push o).objs.size))) { s with heap := (s.heap.push o).push { cls := .type "enumerate", data := .fields #[.none, .bool false, .ref s.heap.objs.size, rawInt 0, .none, .none] } }) :=
  .of_wp fun prog w A R s h => by
    obtain ⟨hp, g, d, tk, os⟩ := s
    obtain ⟨h1, h⟩ := h
    have hsub := sub_enumerate
    have q1 : ∀ {A' : Around} {E : Value → Shared → Prop} {Q : Value → Shared → Prop}, Q (.ref hp.objs.size) ⟨hp.push o, g, d, tk, os⟩ → wpAny (model prog w) A' (pyIter v) Q E ⟨hp, g, d, tk, os⟩ :=
      fun q => B.iter prog w _ _ ⟨hp, g, d, tk, os⟩ _ h1 q
    wp_walk using q1
    refine wpAny_stack_any fun st => wpAny_pure ?_
    split
    · rename_i c _ _ _ _ _
      cases (c == Value.type "enumerate")
      · wp_walk using q1
        exact ⟨_, rfl, h⟩
      · wp_walk using q1
        exact ⟨_, rfl, h⟩
    · wp_walk using q1
      exact ⟨_, rfl, h⟩
theorem enumT_call {prog : Program} {w : World} {A : Around} {E : Value → Shared → Prop} {s : Shared} {v : Value} {o : Obj} {G : Heap → Prop} {Q : Value → Shared → Prop} (B : Begins v o G) (h1 : G s.heap)
    (h : ∀ h', IsEnum h' (s.heap.objs.size + 1) s.heap.objs.size 0 .none → h'.get? s.heap.objs.size = some o → h'.objs.size = s.heap.objs.size + 2 →
      (∀ b o, s.heap.get? b = some o → h'.get? b = some o) → Q (.ref (s.heap.objs.size + 1)) { s with heap := h' }) :
    wpAny (model prog w) A (call (.type "enumerate") [v]) Q E s := by
  refine callType_new F.called_enumerate (by decide) (F.typeCall_enumerate_1 _) (F.newCall_enumerate_1 _) (fun obj => F.args_object_init_2 obj _) F.entry_enumerate_new (enumT_new B) ⟨h1, ?_⟩
  have hz : (s.heap.push o).objs.size = s.heap.objs.size + 1 := Heap.size_push ..
  show _ ∧ _
  rw [hz]
  have he : IsEnum ((s.heap.push o).push { cls := .type "enumerate", data := .fields #[.none, .bool false, .ref s.heap.objs.size, rawInt 0, .none, .none] }) (s.heap.objs.size + 1) s.heap.objs.size 0 .none := by
    have hthis := Heap.get?_push_size (s.heap.push o) (o := { cls := .type "enumerate", data := .fields #[.none, .bool false, .ref s.heap.objs.size, rawInt 0, .none, .none] }) rfl
    rw [hz] at hthis
    exact hthis
  exact ⟨⟨_, he, rfl⟩, h _ he (Heap.get?_push_of_some _ (Heap.get?_push_size _ B.free)) (by rw [Heap.size_push, hz]) fun b o x => Heap.get?_push_of_some _ (Heap.get?_push_of_some _ x)⟩
/-- the tuple at a, the items in new pairs -/
def IteT (K : PySem.W.Frag) (a : Addr) : It :=
  ⟨fun i H => ∃ (xs : List V) (x : V), SqT K H a xs ∧ xs[i]? = some x, fun i H v H' => ∃ T x, v = .ref T ∧ H T = none ∧ H' = upd H T (.tup [.int (i : Nat), x]) ∧ ∀ xs, SqT K H a xs → xs[i]? = some x, fun i H => ∃ xs : List V, SqT K H a xs ∧ xs.length ≤ i⟩
theorem apart_tup {h : Heap} {a it : Addr} {items : Array Value} {i : Nat} (ht : h.IsTuple a items) (hit : h.IsTupleIter it a i) : a ≠ it := by
  rintro rfl
  obtain ⟨o, ho, hc, hd⟩ := hit
  obtain ⟨o2, ho2, hc2, _⟩ := ht
  rw [ho] at ho2
  cases ho2
  rw [hc] at hc2
  exact absurd (Value.type.inj hc2) (by decide)
theorem apart_enum {h : Heap} {a e it : Addr} {items : Array Value} {i : Int} {old : Value} (ht : h.IsTuple a items) (he : IsEnum h e it i old) : a ≠ e := by
  rintro rfl
  obtain ⟨o2, ho2, hc2, _⟩ := ht
  have he' : h.get? a = some _ := he
  rw [he'] at ho2
  cases ho2
  exact absurd (Value.type.inj hc2) (by decide)
theorem turn_enumT {P : Program} {w : World} {K : PySem.W.Frag} {elts : List Expr} {kk : Nat} {tpos : Pos} (a e it : Addr) :
    Turn P w K (.Tuple elts kk tpos) (IteT K a) [e, it] e (fun i h => (∃ old, IsEnum h e it ((i : Nat) : Int) old) ∧ h.IsTupleIter it a i ∧ e ≠ it) where
  mem := by simp
  obj := fun i h st b hb => by
    obtain ⟨⟨old, he⟩, ⟨o, ho, hc, hd⟩, _⟩ := st
    have e' : b = e ∨ b = it := by simpa using hb
    rcases e' with z | z
    · rw [z]; exact ⟨_, he, fun v q => nomatch q⟩
    · rw [z]; exact ⟨o, ho, fun v q => by rw [hd] at q; cases q⟩
  keep := fun i h h' st k => let ⟨⟨old, he⟩, hi, hne⟩ := st; ⟨⟨old, k e (by simp) _ he⟩, hi.at fun o q => k it (by simp) o q, hne⟩
  item := by
    intro X hP hw hK hc i pins s σ H E I hf st hg
    subst hP hw hK
    obtain ⟨⟨old, he⟩, hit, hne⟩ := st
    obtain ⟨xs, x, hq, hx⟩ := hg
    obtain ⟨its, rv, p, hz⟩ := I.tuple hq
    obtain ⟨u, hu, ru⟩ := rv.get hx
    have hel : e < s.heap.objs.size := Heap.lt_size he
    have hil : it < s.heap.objs.size := by obtain ⟨_, q, _⟩ := hit; exact Heap.lt_size q
    have nai := apart_tup p hit
    have nae := apart_enum p he
    have hlt : i < its.toArray.size := by
      have := (List.getElem?_eq_some_iff.mp hu).1
      simpa using this
    have D := Draws.tuple (prog := X.prog) (w := X.w) (A := X.A.in1) (show X.A.in1.handled = none from I.ok.hd hc) it a nai its.toArray
    refine wpAny_pyNext_enum_itemC D he ⟨hit, p⟩ hlt hne (by simp only [List.mem_cons, List.not_mem_nil, or_false, not_or]; exact ⟨hne, Ne.symm nae⟩) fun v h' tk hP ho hst' hT hsz hk => ?_
    have ev : v = u := by
      have hP' : its.toArray[i]? = some v := hP
      rw [List.getElem?_toArray, hu] at hP'
      exact (Option.some.inj hP').symm
    subst ev
    obtain ⟨hit', _⟩ := hst'
    refine ⟨_, rfl, wpAny_letOwnedTupleGo_enum (s := { s with heap := h', toks := tk + 1 }) ho fun h'' he' sb => ?_⟩
    have hT2 : h''.get? s.heap.objs.size = some { cls := .type "tuple", data := .seq #[.int i tk, v] } := (sb.2 _ (Nat.ne_of_gt hel)).trans hT
    have new : ObjOk X.prog X.w (upd H s.heap.objs.size (.tup [.int (i : Nat), x])) h'' s.heap.objs.size (.tup [.int (i : Nat), x]) :=
      ⟨by show 2 ≤ sizeLine; decide, [.int i tk, v], .cons ⟨_, rfl⟩ (.cons ru .nil), ⟨_, hT2, rfl, _, rfl⟩⟩
    have I1 : Inv X pins σ (upd H s.heap.objs.size (.tup [.int (i : Nat), x])) { s with heap := h'', toks := tk + 1 } :=
      I.turnedNew (ch := [e, it]) (fun b ob hb q => (sb.2 b (fun z => hb (by simp [z]))).trans (hk b ob (fun z => hb (by simp [z])) (fun z => hb (by simp [z])) q)) hf (Nat.le_refl _) new
    refine ⟨.ref s.heap.objs.size, _, I1, rfl, ⟨_, x, rfl, I.hok.fresh (Nat.le_refl _), rfl, fun ys hy => ?_⟩, ⟨⟨v, ?_⟩, hit'.at fun o q => (sb.2 it (Ne.symm hne)).trans q, hne⟩, fun b hb => ?_⟩
    · rw [I.tuple_inj hy hq]
      exact hx
    · have e1 : ((i + 1 : Nat) : Int) = (i : Int) + 1 := by omega
      rw [e1]; exact he'
    · have hb' : b < s.heap.objs.size := by
        have e' : b = e ∨ b = it := by simpa using hb
        rcases e' with z | z
        · rw [z]; exact hel
        · rw [z]; exact hil
      rw [upd_ne (Nat.ne_of_lt hb')]
      exact (hf b hb).1
  done := by
    intro X hP hw hK hc i pins s σ H E I hf st hg
    subst hP hw hK
    obtain ⟨⟨old, he⟩, hit, hne⟩ := st
    obtain ⟨xs, hq, hx⟩ := hg
    obtain ⟨its, rv, p, hz⟩ := I.tuple hq
    obtain ⟨f0, f1, f2, f3, f4, f5⟩ := hf it (by simp)
    have hl := rv.length
    have D : Draws X.prog X.w X.A.in1 it [it, a] i (fun _ _ => True) (fun j h => j = i ∧ h.IsTupleIter it a i ∧ h.IsTuple a its.toArray) := {
      live := fun _ _ st => let ⟨o, ho, _⟩ := st.2.1; ⟨o, ho⟩
      frame := fun _ _ _ st hk => ⟨st.1, st.2.1.at fun o e => hk it (by simp) o e, st.2.2.at fun o e => hk a (by simp) o e⟩
      item := fun j s Q E hj st hQ => absurd st.1 (Nat.ne_of_lt hj)
      done := fun s Q E st hE => wpAny_nextOf_tuple_end (show X.A.in1.handled = none from I.ok.hd hc) st.2.1 st.2.2 (by simp; omega) hE }
    exact wpAny_pyNext_enum_endD D he ⟨rfl, hit, p⟩ fun h' eb => ⟨rfl, I.turned (t' := s.toks) (fun b o hb q => eb b o hb q) f0 f1 f3 f4 f5⟩
  self := fun A i s Q E st h => let ⟨⟨_, he⟩, _⟩ := st; wpAny_pyIter_enum he h
def iEnumT (K : PySem.W.Frag) (ta : TA) : TI := fun σ H R => ta σ H fun vs H1 => ∃ a xs, vs = [.ref a] ∧ SqT K H1 a xs ∧ R (IteT K a) H1
theorem pi_enumT {X : Cx} {e : Expr} {ta : TA} {p pos tpos : Pos} {elts : List Expr} {kk : Nat} (hg : Gl X "enumerate") (hm : X.mg "enumerate" = none) (ha : PA X [e] ta) (hs : starEach [e] X.env = [(false, eval e X.env)] := by rfl) :
    PI X (.Tuple elts kk tpos) (.Call (.Name "enumerate" p) [e] [] pos) (iEnumT X.K ta) := by
  refine ⟨fun pins s σ H R I h => ?_⟩
  refine Call_ (ld_blt I hg hm boot_enumerate (PyProof.Rows.callWith_type1 (thn (ha.run pos pins s σ H _ I h) fun us s1 ⟨vs, H1, I1, r1, q1⟩ => ?_) hs rfl))
  obtain ⟨a, xs, ex, hq, q⟩ := q1
  subst ex
  cases r1 with
  | cons r rr =>
    cases rr
    cases r
    obtain ⟨its, rv, p', hz⟩ := I1.tuple hq
    refine enumT_call (begins_tuple a its.toArray) p' fun h' he hit hsz hk => wpAny_pyIter_enum he ?_
    have I2 : Inv X pins σ H1 { s1 with heap := h' } := I1.kept (t' := s1.toks) hk
    refine ⟨s1.heap.objs.size + 1, [s1.heap.objs.size + 1, s1.heap.objs.size], _, _, H1, rfl, I2, turn_enumT a (s1.heap.objs.size + 1) s1.heap.objs.size, ⟨⟨.none, he⟩, ⟨_, hit, rfl, rfl⟩, Nat.succ_ne_self _⟩, fun b hb => ?_, q⟩
    have e' : b = s1.heap.objs.size + 1 ∨ b = s1.heap.objs.size := by simpa using hb
    have hle : s1.heap.objs.size ≤ b := by
      rcases e' with z | z
      · rw [z]; exact Nat.le_add_right _ _
      · rw [z]; exact Nat.le_refl _
    exact I1.fpOk hle (I1.hok.fresh hle)
theorem walk_enumT {K : PySem.W.Frag} {a : Addr} {xs : List V} : L2.Walk (IteT K a) xs.length (fun H => SqT K H a xs) (YPair (fun i => some (.int (i : Nat))) (fun i => xs[i]?)) := by
  refine ⟨fun i _ hi q => ⟨xs, xs[i], q, by simp [hi]⟩, fun _ q => ⟨xs, q, Nat.le_refl _⟩, fun i H v H' _ q y => ?_⟩
  obtain ⟨T, x, h1, h2, h3, h4⟩ := y
  exact ⟨T, .int (i : Nat), x, h1, h2, h3, rfl, h4 xs q⟩
section
variable {K : PySem.W.Frag} {Γ : List Sl} {te : TE}
/-- enumerate(a tuple) as a walk -/
theorem semi_enumT {xs : List PyData} (h : Sem K Γ te (.d (.tuple xs))) : SemI K Γ (iEnumT K (tCons te tNil)) (pairs0 xs) := fun H0 σ H R rp q =>
  h H0 σ H _ rp fun v H1 e1 a1 => by
    obtain ⟨p, vs, ev, ht, hl⟩ := Dt.isTup a1
    subst ev
    refine ⟨p, vs, rfl, ht.sq, q _ H1 e1 ?_⟩
    rw [pairs0_len]
    have w := (walk_enumT (K := K) (a := p) (xs := vs))
    rw [hl.length] at w
    refine w.mono (fun G s => (ht.keep (strip_tk (rp.mono e1) s)).sq) fun i G x G' hi s y => ?_
    obtain ⟨T, a, b, rfl, hT, rfl, ea, eb⟩ := y
    cases ea
    obtain ⟨d, h1, h2⟩ := DtL.at (DtL.keep (strip_tk (rp.mono e1) s) hl) eb
    exact ⟨same_new hT, _, pairs0_at h1, .tup (.inl upd_same) (.cons (.int _) (.cons (Dt.keep (TK.of (same_new hT)) h2) .nil))⟩
end
end RP
end
section
set_option maxHeartbeats 4000000
namespace RP
open PySem PySem.Spec PyProof.Rows L2
section
variable {P : Program} {w : World} {K : PySem.W.Frag} {mg : Str → Option Value} {base : Heap} {Γ : List Sl} {te : TE} {E : XK}
theorem op_catK {X : Cx} (h : X.K = K := by rfl) : OpR X (binaryOp .Add) (rCatA K) := h ▸ op_catA
theorem st_between {x lo hi : TE} {i l h : Int} (b : Bool) (h1 : Sem K Γ x (.d (.int i))) (h2 : Sem K Γ lo (.d (.int l))) (h3 : Sem K Γ hi (.d (.int h))) (e : (decide (l ≤ i) && decide (i ≤ h)) = b) : SemT K Γ (tB (tCall (spF K pr_is_between) [] E (tCons x (tCons lo (tCons hi tNil))))) b :=
  semt_B (sem_call (sema_cons h1 (sema_cons h2 (sema_cons h3 sema_nil))) ⟨_, _, _, rfl, .inl ⟨_, rfl, by rw [e]⟩⟩)
theorem datas_get {js : List Job} {i : Nat} {x : Job} (h : js[i]? = some x) : atI (Job.datas js) (i : Int) = some x.data := by
  have hl := (List.getElem?_eq_some_iff.mp h).1
  unfold atI ixN
  rw [if_pos (by omega), if_pos (by rw [datas_len]; omega), Int.toNat_natCast]
  show (Job.datas js)[i]? = _
  rw [datas_map, List.getElem?_map, h]
  rfl
def pr_inner_at : List Rk → Rk → Prop := fun rs r => ∃ (j : Job) (i : Nat), rs = [.d j.data, .d (.int (i : Nat))] ∧ r = .d (j.at1 i).data ∧ j.Inn i
theorem w_inner_at (T : Tx K mg) : Df P w K mg base CX0 3 "inner_at" p_inner_at (spF K pr_inner_at) := by
  have g_is_between := w_is_between (P := P) (w := w) (base := base) T
  refine df_sem (N := n_inner_at) (k := 2) T.f_inner_at (fun _ _ _ _ _ _ us hl => match us, hl with | [_, _], _ => rfl) sc_inner_at (fun rs r h => by obtain ⟨j, i, rfl, _⟩ := h; rfl) ?_
  intro rs r h f cdv A outer s H E hr
  refine ⟨_, (pss_cons (ps_if (pt_cmpR op_in_seq (pe_ix ix_tup (pv 0) pe_int (fun _ _ => rfl)) (pe_gref rfl T.c_GROUPS) (by rfl)) (pss_one (ps_ret (pe_ifExp (pt_val (pe_df g_is_between hr (by omega) pass0 rfl (pa_cons (pv 1) (pa_cons pe_int (pa_cons (pe_op op_sub (pe_callB call_len_seq rfl T.b_len (by decide +kernel) (pa_cons (pe_ix ix_tup (pv 0) pe_int (fun _ _ => rfl)) pa_nil)) pe_int) pa_nil))))) (pe_ix ix_tup (pe_ix ix_tup (pv 0) pe_int (fun _ _ => rfl)) (pv 1) (fun _ _ => rfl)) pe_non))) pss_nil)
    (pss_one (ps_ret (pe_ifExp (pt_val (pe_df g_is_between hr (by omega) pass0 rfl (pa_cons (pv 1) (pa_cons pe_int (pa_cons (pe_op op_sub (pe_ix ix_tup (pv 0) pe_int (fun _ _ => rfl)) pe_int) pa_nil))))) (pe_ix ix_tup (pv 0) pe_int (fun _ _ => rfl)) pe_non)))), ?_⟩
  obtain ⟨j, i, rfl, rfl, hi⟩ := h
  refine ⟨.rt (.d (j.at1 i).data), ?_, .inl rfl⟩
  cases j with
  | step v => exact hi.elim
  | grp p js =>
    have hi' : i < js.length := hi
    have hx : js[i]? = some (js.getD i .nil) := by rw [List.getD_eq_getElem?_getD, List.getElem?_eq_getElem hi']; rfl
    refine semb_seqR (semb_if (b := true) (semt_T (sem_op (sem_op (sem_var rfl) sem_int (rvd_ixT rfl)) (sem_k T.k_GROUPS) (rvd_inW' (ws := ["seq", "par"]) rfl (in_groups p)))) (fun _ => semb_ret ?_) fun z => by cases z)
    refine sem_if (b := true) (st_between true (sem_var rfl) sem_int (sem_op (sem_cb (sema_cons (sem_op (sem_var rfl) sem_int (rvd_ixT (x := .tuple (Job.datas js)) rfl)) sema_nil) cvd_lenT) sem_int rvd_sub) ?_) (fun _ => sem_op (sem_op (sem_var rfl) sem_int (rvd_ixT (x := .tuple (Job.datas js)) rfl)) (sem_var rfl) (rvd_ixT (datas_get hx))) fun z => by cases z
    rw [datas_len, decide_eq_true (by omega), decide_eq_true (by omega)]
    rfl
  | mul c n k =>
    have hi' : i < n := hi
    refine semb_seq (semb_if (b := false) (semt_T (sem_op (sem_op (sem_var rfl) sem_int (rvd_ixT rfl)) (sem_k T.k_GROUPS) (rvd_inW' (ws := ["seq", "par"]) rfl (in_groups_mw c)))) (fun z => by cases z) fun _ => semb_next) (semb_ret ?_)
    refine sem_if (b := true) (st_between true (sem_var rfl) sem_int (sem_op (sem_op (sem_var rfl) sem_int (rvd_ixT rfl)) sem_int rvd_sub) ?_) (fun _ => sem_op (sem_var rfl) sem_int (rvd_ixT rfl)) fun z => by cases z
    rw [decide_eq_true (by omega), decide_eq_true (by omega)]
    rfl
theorem isNone_job (j : Job) : isNoneD j.data = false := by cases j <;> rfl
def Job.nodeB : Job → Bool
  | .step _ => false
  | _ => true
theorem st_node (b : Bool) {j : Job} (h : Sem K Γ te (.d j.data)) (e : j.nodeB = b) : SemT K Γ (tB (tCall (spF K pr_is_node) [] E (tCons te tNil))) b := by
  subst e
  cases j with
  | step v => exact st_nodeI h
  | grp p js => exact st_nodeT h
  | mul c n k => exact st_nodeT h
theorem inn_node {j : Job} {i : Nat} (h : j.Inn i) : j.nodeB = true := by
  cases j with
  | step v => exact h.elim
  | grp p js => rfl
  | mul c n k => rfl
def pr_step_by : List Rk → Rk → Prop := fun rs r => ∃ (j : Job) (c : List Nat) (v : Int), rs = [.d j.data, .d (adD c)] ∧ r = .d (.int v) ∧ Pa c j v
theorem w_step_by (T : Tx K mg) : Df P w K mg base CX0 4 "step_by" p_step_by (spF K pr_step_by) := by
  have g_inner_at := w_inner_at (P := P) (w := w) (base := base) T
  have g_is_node := w_is_node (P := P) (w := w) (base := base) T
  refine df_sem (N := n_step_by) (k := 3) T.f_step_by (fun _ _ _ _ _ _ us hl => match us, hl with | [_, _], _ => rfl) sc_step_by (fun rs r h => by obtain ⟨j, c, v, rfl, _⟩ := h; rfl) ?_
  intro rs r h f cdv A outer s H E hr
  refine ⟨_, (pss_cons (ps_for PassesOwn.never rfl (pi_tup (pv 1)) (pg_name (i := 2) sc_step_by.nd rfl (Or.inl rfl)) (pss_cons (ps_if (PW.pt (pw_or (pt_cmpR op_isN (pv 0) pe_non (nomark _)) (pw_or1 (pt_not (pt_val (pe_df g_is_node hr (by omega) pass0 rfl (pa_cons (pv 0) pa_nil))))))) (pss_one (ps_ret pe_non)) pss_nil)
    (pss_one (ps_set (i := 0) sc_step_by.nd rfl (Or.inl rfl) (pe_df g_inner_at hr (by omega) pass0 rfl (pa_cons (pv 0) (pa_cons (pv 2) pa_nil)))))))
    (pss_one (ps_ret (pe_ifExp (PW.pt (pw_or (pt_cmpR op_isN (pv 0) pe_non (nomark _)) (pw_or1 (pt_val (pe_df g_is_node hr (by omega) pass0 rfl (pa_cons (pv 0) pa_nil)))))) pe_non (pv 0))))), ?_⟩
  obtain ⟨j, c, v, rfl, rfl, hp⟩ := h
  refine ⟨.rt (.d (.int v)), ?_, .inl rfl⟩
  let Γs : Nat → List Sl := fun i => [.d (walkJ j (c.take i)).data, .d (adD c), .un]
  refine semb_seq (Γ1 := Γs (c.map fun i => PyData.int (i : Nat)).length) (semb_for Γs (semi_tup (sem_var (x := .tuple (c.map fun i => PyData.int (i : Nat))) rfl)) fun i x hx => ?_) ?_
  · rw [List.getElem?_map] at hx
    obtain ⟨k, hk, rfl⟩ := Option.map_eq_some_iff.mp hx
    obtain ⟨h1, h2⟩ := pa_at hp hk
    refine ⟨_, _, semg_name, .inl ?_⟩
    show SemB K [.d (walkJ j (c.take i)).data, .d (adD c), .d (.int (k : Nat))] _ _
    generalize walkJ j (c.take i) = y at h1 h2
    refine SemB.weak (semb_seq (semb_if (b := false) (semt_or (a := false) (b := false) (semt_T (sem_op (sem_var rfl) sem_non (rvd_isN' (isNone_job _)))) fun _ => semt_not (b := true) (st_node true (sem_var rfl) (inn_node h1))) (fun z => by cases z) fun _ => semb_next) (semb_set (sem_call (sema_cons (sem_var rfl) (sema_cons (sem_var rfl) sema_nil)) ⟨y, k, rfl, rfl, h1⟩))) (.eq ?_ (.eq rfl (.un .nil)))
    show Sl.d (walkJ j (c.take (i + 1))).data = _
    rw [h2]
    rfl
  · have e : Γs (c.map fun i => PyData.int (i : Nat)).length = [.d (.int v), .d (adD c), .un] := by
      show [Sl.d (walkJ j (c.take (c.map fun i => PyData.int (i : Nat)).length)).data, .d (adD c), .un] = _
      rw [List.length_map, List.take_length, pa_end hp]
      rfl
    rw [e]
    exact semb_ret (sem_if (b := false) (semt_or (a := false) (b := false) (semt_T (sem_op (sem_var rfl) sem_non (rvd_isN' rfl))) fun _ => st_nodeI (sem_var rfl)) (fun z => by cases z) fun _ => sem_var rfl)
def pr_is_address_by : List Rk → Rk → Prop := fun rs r => ∃ (j : Job) (c : List Nat) (v : Int), rs = [.d j.data, .d (adD c)] ∧ r = .d (.bool true) ∧ Pa c j v
theorem w_is_address_by (T : Tx K mg) : Df P w K mg base CX0 5 "is_address_by" p_is_address_by (spF K pr_is_address_by) := by
  have g_step_by := w_step_by (P := P) (w := w) (base := base) T
  refine df_sem (N := n_is_address_by) (k := 4) T.f_is_address_by (fun _ _ _ _ _ _ us hl => match us, hl with | [_, _], _ => rfl) sc_is_address_by (fun rs r h => by obtain ⟨j, c, v, rfl, _⟩ := h; rfl) ?_
  intro rs r h f cdv A outer s H E hr
  refine ⟨_, (pss_one (ps_ret (pe_and (pe_callB call_isi rfl T.b_isinstance (by decide +kernel) (pa_cons (pv 1) (pa_cons (pe_bltn (v := .ty "tuple") (u := .type "tuple") rfl T.b_tuple (by decide +kernel) rfl) pa_nil))) (pe_one (pe_cmpR op_notN (pe_df g_step_by hr (by omega) pass0 rfl (pa_cons (pv 0) (pa_cons (pv 1) pa_nil))) pe_non (nomark _)))))), ?_⟩
  obtain ⟨j, c, v, rfl, rfl, hp⟩ := h
  refine ⟨.rt (.d (.bool true)), ?_, .inl rfl⟩
  exact semb_ret (sem_and (a := true) (b := true) (sem_isiT (ds := c.map fun i => PyData.int (i : Nat)) (sem_var rfl) (by decide +kernel)) fun _ => sem_op (sem_call (sema_cons (sem_var rfl) (sema_cons (sem_var rfl) sema_nil)) ⟨j, c, v, rfl, rfl, hp⟩) sem_non (rvd_isnotN' rfl))
def pr_step_value : List Rk → Rk → Prop := fun rs r => ∃ (j : Job) (c : List Nat) (v : Int), rs = [.d j.data, .d (adD c)] ∧ r = .d (.int v) ∧ Pa c j v ∧ j.Ok 13
theorem w_step_value (T : Tx K mg) : Df P w K mg base CX0 32 "step_value" p_step_value (spF K pr_step_value) := by
  have g_step_by := w_step_by (P := P) (w := w) (base := base) T
  have g_check_job := w_check_job (P := P) (w := w) (base := base) T
  refine df_sem (N := n_step_value) (k := 31) T.f_step_value (fun _ _ _ _ _ _ us hl => match us, hl with | [_, _], _ => rfl) sc_step_value (fun rs r h => by obtain ⟨j, c, v, rfl, _⟩ := h; rfl) ?_
  intro rs r h f cdv A outer s H E hr
  refine ⟨_, (pss_cons (ps_expr (pe_df g_check_job hr (by omega) pass0 rfl (pa_cons (pv 0) pa_nil)))
    (pss_cons (ps_set (i := 2) sc_step_value.nd rfl (Or.inl rfl) (pe_ifExp (pt_val (pe_callB call_isi rfl T.b_isinstance (by decide +kernel) (pa_cons (pv 1) (pa_cons (pe_bltn (v := .ty "tuple") (u := .type "tuple") rfl T.b_tuple (by decide +kernel) rfl) pa_nil)))) (pe_df g_step_by hr (by omega) pass0 rfl (pa_cons (pv 0) (pa_cons (pv 1) pa_nil))) pe_non))
    (pss_cons (ps_if (pt_cmpR op_isN (pv 2) pe_non (nomark _)) (pss_one ps_never) pss_nil)
    (pss_one (ps_ret (pv 2)))))), ?_⟩
  obtain ⟨j, c, v, rfl, rfl, hp, ok⟩ := h
  refine ⟨.rt (.d (.int v)), ?_, .inl rfl⟩
  refine semb_seq (semb_expr (sem_call (sema_cons (sem_var rfl) sema_nil) ⟨j, rfl, rfl, ok⟩)) ?_
  refine semb_seq (semb_set (r := .d (.int v)) (sem_if (b := true) (semt_B (sem_isiT (ds := c.map fun i => PyData.int (i : Nat)) (sem_var rfl) (by decide +kernel))) (fun _ => sem_call (sema_cons (sem_var rfl) (sema_cons (sem_var rfl) sema_nil)) ⟨j, c, v, rfl, rfl, hp⟩) fun z => by cases z)) ?_
  exact semb_seq (semb_if (b := false) (semt_T (sem_op (sem_var rfl) sem_non (rvd_isN' rfl))) (fun z => by cases z) fun _ => semb_next) (semb_ret (sem_var rfl))
/-! ### choices -/
def pr_choices_by (L : Nat) : List Rk → Rk → Prop := fun rs r => ∃ j : Job, rs = [.d j.data] ∧ r = .l (j.choices.map adD) ∧ j.depth ≤ L ∧ j.depth ≤ 500 ∧ j.nodes ≤ 1000
theorem b_choices_by : ∀ (kV doc pm : Value) (an : Option Addr) (cdv ct : Value) (us : List Value), us.length = p_choices_by.length → bindArgs (PySem.W.fnOf "choices_by" "choices_by" (defArgs s_choices_by) (defBody s_choices_by) (defScope s_choices_by) .none kV doc pm an cdv ct) ⟨us, []⟩ = pure (p_choices_by.zip us) :=
  fun _ _ _ _ _ _ us hl => match us, hl with | [_], _ => rfl
/-- [(e,) + rest for rest in choices_by(part)] -/
theorem sem_rests {L i : Nat} {Γ : List Sl} {ta tb : TE} {j : Job} (hlen : Γ.length = 5) (ha : Sem K Γ ta (.d j.data)) (hb : Sem K (Γ.set 4 .un) tb (.d (.int (i : Nat)))) (hb' : ∀ x, Sem K ((Γ.set 4 .un).set 4 (.d x)) tb (.d (.int (i : Nat)))) (hL : j.depth ≤ L) (h5 : j.depth ≤ 500) (hn : j.nodes ≤ 1000) :
    Sem K Γ (tLc (iList K (tCall (spF K (pr_choices_by L)) [] E0 (tCons ta tNil))) (gName 4) tYes (tOp (rCatA K) (tTup (tCons tb tNil)) (tVar 4)) [4]) (.l ((j.choices.map (i :: ·)).map adD)) := by
  have e : (j.choices.map (i :: ·)).map adD = j.choices.map fun c => adD (i :: c) := by rw [List.map_map]; rfl
  rw [e]
  refine sem_lcM j.choices adD (fun c => adD (i :: c)) (semi_new (sem_call (sema_cons ha sema_nil) ⟨j, rfl, rfl, hL, h5, hn⟩)).j (by have := choices_len j; omega) fun c hc => ⟨_, _, semg_name, fun k hk => hk, ?_⟩
  have hs := choice_short j c hc
  have h4 : ((Γ.set 4 .un).set 4 (.d (adD c)))[4]? = some (.d (.tuple (c.map fun i => PyData.int (i : Nat)))) := by
    rw [List.getElem?_set_self (by rw [List.length_set, hlen]; decide)]
    rfl
  have := sem_op (sem_tup (ds := [_]) (sema_cons (hb' (adD c)) sema_nil) (by simp)) (sem_var h4) (rvd_catA (K := K) (by rw [List.length_map]; simp only [List.length_cons, List.length_nil]; omega))
  exact this
theorem eqv_lnil (ds : List PyData) : PyData.eqv (.list ds) (.list []) = ds.isEmpty := by
  cases ds <;> simp [PyData.eqv, PyData.eqvAll]
theorem w_choices_by (T : Tx K mg) : ∀ L : Nat, Df P w K mg base CX0 (L + 2) "choices_by" p_choices_by (spF K (pr_choices_by L))
  | 0 => df_none T.f_choices_by b_choices_by fun rs r h => by
    obtain ⟨j, _, _, h1, _⟩ := h
    have hd1 := depth_pos j
    omega
  | L + 1 => by
    have g_choices_by := w_choices_by T L
    have g_is_node := w_is_node (P := P) (w := w) (base := base) T
    refine df_sem (N := n_choices_by) (k := L + 2) T.f_choices_by b_choices_by sc_choices_by (fun rs r h => by obtain ⟨j, rfl, _⟩ := h; rfl) ?_
    intro rs r h f cdv A outer s H E hr
    refine ⟨_, (pss_cons (ps_if (pt_not (pt_val (pe_df g_is_node hr (by omega) pass0 rfl (pa_cons (pv 0) pa_nil)))) (pss_one (ps_ret (pe_lst (pa_cons (pe_tup pa_nil) pa_nil)))) pss_nil)
    (pss_cons (ps_if (pt_cmpR op_notIn_seq (pe_ix ix_tup (pv 0) pe_int (fun _ _ => rfl)) (pe_gref rfl T.c_GROUPS) (by rfl)) (pss_one (ps_ret (pe_ifExp (pt_cmpR op_gt (pe_ix ix_tup (pv 0) pe_int (fun _ _ => rfl)) pe_int (nomark _)) (pe_lc (own := [("rest", 4)]) (g := (gName 4)) (tt := tYes) rfl sc_choices_by.nd (pi_list (pe_df g_choices_by hr (by omega) pass0 rfl (pa_cons (pe_ix ix_tup (pv 0) pe_int (fun _ _ => rfl)) pa_nil))) (blkOk_by (own := [("rest", 4)]) (N := n_choices_by) (sc := defScope s_choices_by) (by decide +kernel)) (fun _ _ _ _ _ => (pg_name (i := 4) sc_choices_by.nd rfl (Or.inl rfl))) (fun _ _ _ _ _ => pts_nil) (fun _ _ _ _ _ => (pe_op (op_catK (K := K)) (pe_tup (pa_cons pe_int pa_nil)) (pv 4)))) (pe_lst pa_nil)))) pss_nil)
    (pss_cons (ps_set (i := 1) sc_choices_by.nd rfl (Or.inl rfl) (pe_lst pa_nil))
    (pss_cons (ps_for PassesOwn.never rfl (pi_enumT rfl T.b_enumerate (pa_cons (pe_ix ix_tup (pv 0) pe_int (fun _ _ => rfl)) pa_nil)) (pg_tup rfl (pgs_cons (pg_name (i := 2) sc_choices_by.nd rfl (Or.inr rfl)) (pgs_cons (pg_name (i := 3) sc_choices_by.nd rfl (Or.inl rfl)) pgs_nil))) (pss_cons (ps_expr (pe_bm PySem.F.plainAttrs_list PySem.F.slot_list_extend PySem.F.type_list_extend mt_extend (pv 1) (pa_cons (pe_lc (own := [("rest", 4)]) (g := (gName 4)) (tt := tYes) rfl sc_choices_by.nd (pi_list (pe_df g_choices_by hr (by omega) pass0 rfl (pa_cons (pv 3) pa_nil))) (blkOk_by (own := [("rest", 4)]) (N := n_choices_by) (sc := defScope s_choices_by) (by decide +kernel)) (fun _ _ _ _ _ => (pg_name (i := 4) sc_choices_by.nd rfl (Or.inl rfl))) (fun _ _ _ _ _ => pts_nil) (fun _ _ _ _ _ => (pe_op (op_catK (K := K)) (pe_tup (pa_cons (pv 2) pa_nil)) (pv 4)))) pa_nil)))
    (pss_one (ps_if (PW.pt (pw_and (pt_cmpR (op_neD hr.units) (pv 1) (pe_lst pa_nil) (nomark _)) (pw_and1 (pt_cmpR op_eq (pe_ix ix_tup (pv 0) pe_int (fun _ _ => rfl)) pe_str (nomark _))))) (pss_one (ps_ret (pv 1))) pss_nil))))
    (pss_one (ps_ret (pv 1))))))), ?_⟩
    obtain ⟨j, rfl, rfl, hL, h5, hn⟩ := h
    refine ⟨.rt (.l (j.choices.map adD)), ?_, .inl rfl⟩
    cases j with
    | step v =>
      rw [Job.choices]
      exact semb_seqR (semb_if (b := true) (semt_not (b := false) (st_nodeI (sem_var rfl))) (fun _ => semb_ret (sem_lst (ds := [adD []]) (sema_cons (sem_tup (ds := []) sema_nil (by decide)) sema_nil) (by decide))) fun z => by cases z)
    | mul c n k =>
      rw [Job.depth] at hL h5
      rw [Job.nodes] at hn
      refine semb_seq (semb_if (b := false) (semt_not (b := true) (st_nodeT (sem_var rfl))) (fun z => by cases z) fun _ => semb_next) ?_
      refine semb_seqR (semb_if (b := true) (semt_T (sem_op (sem_op (sem_var rfl) sem_int (rvd_ixT rfl)) (sem_k T.k_GROUPS) (rvd_niW' (ws := ["seq", "par"]) rfl (by rw [in_groups_mw c] <;> rfl)))) (fun _ => semb_ret ?_) fun z => by cases z)
      rw [Job.choices]
      refine sem_if (b := decide (0 < n)) (semt_T (sem_op (sem_op (sem_var rfl) sem_int (rvd_ixT rfl)) sem_int (rvd_gt' ?_))) (fun e => ?_) fun e => ?_
      · by_cases h0 : 0 < n
        · rw [decide_eq_true h0, decide_eq_true (by omega)]
        · rw [decide_eq_false h0, decide_eq_false (by omega)]
      · rw [if_pos (of_decide_eq_true e)]
        exact sem_rests (i := 0) rfl (sem_op (sem_var rfl) sem_int (rvd_ixT rfl)) sem_int (fun x => sem_int) (by omega) (by omega) (by omega)
      · rw [if_neg (of_decide_eq_false e)]
        exact sem_lst (ds := []) sema_nil (by decide)
    | grp p js =>
      rw [Job.depth] at hL h5
      rw [Job.nodes] at hn
      refine semb_seq (semb_if (b := false) (semt_not (b := true) (st_nodeT (sem_var rfl))) (fun z => by cases z) fun _ => semb_next) ?_
      refine semb_seq (semb_if (b := false) (semt_T (sem_op (sem_op (sem_var rfl) sem_int (rvd_ixT rfl)) (sem_k T.k_GROUPS) (rvd_niW' (ws := ["seq", "par"]) rfl (by rw [in_groups p] <;> rfl)))) (fun z => by cases z) fun _ => semb_next) ?_
      refine semb_seq (semb_set (sem_lst (ds := []) sema_nil (by decide))) ?_
      let Γs : Nat → List Sl := fun i => [.d (Job.grp p js).data, .l ((chAll 0 (js.take i)).map adD), .un, .un, .un]
      have hlen : ∀ i, (chAll 0 (js.take i)).length ≤ 1000 := fun i => by
        have h1 := chAll_len 0 (js.take i)
        have h2 := nodesL_le js i
        omega
      have walk : SemI K (Γs 0) (iEnumT K (tCons (tOp (rIxT K) (tVar 0) (tC (.int 1))) tNil)) (pairs0 (Job.datas js)) := semi_enumT (sem_op (sem_var rfl) sem_int (rvd_ixT (x := .tuple (Job.datas js)) rfl))
      have tgt : ∀ (i : Nat) (j : Job), SemG K (gTup K 2 (gCons (gName 2) (gCons (gName 3) gNil))) (.tuple [.int (i : Nat), j.data]) (Γs i) [.d (Job.grp p js).data, .l ((chAll 0 (js.take i)).map adD), .d (.int (i : Nat)), .d j.data, .un] ([2] ++ ([3] ++ [])) := fun i j => semg_tup rfl (semgs_cons semg_name (semgs_cons semg_name semgs_nil))
      have ext : ∀ (i : Nat) (j : Job), js[i]? = some j → SemB K [.d (Job.grp p js).data, .l ((chAll 0 (js.take i)).map adD), .d (.int (i : Nat)), .d j.data, .un]
          (tDrop (tBM K "list" rExtend (tVar 1) (tCons (tLc (iList K (tCall (spF K (pr_choices_by L)) [] E0 (tCons (tVar 3) tNil))) (gName 4) tYes (tOp (rCatA K) (tTup (tCons (tVar 2) tNil)) (tVar 4)) [4]) tNil)))
          (.nx [.d (Job.grp p js).data, .l ((chAll 0 (js.take (i + 1))).map adD), .d (.int (i : Nat)), .d j.data, .un]) := fun i j hj => by
        have hmem := List.mem_of_getElem? hj
        have h1 := mem_depths hmem
        have h2 := mem_nodesL hmem
        have h3 := choices_len j
        have h4 := hlen i
        rw [chAll_take hj, List.map_append]
        exact semb_extend rfl (sem_rests (i := i) rfl (sem_var rfl) (sem_var rfl) (fun x => sem_var rfl) (by omega) (by omega) (by omega)) (by simp only [List.length_map]; omega)
      have tst : ∀ (i : Nat) (j : Job) (b : Bool), (!(chAll 0 (js.take (i + 1))).isEmpty && !p) = b → SemT K [.d (Job.grp p js).data, .l ((chAll 0 (js.take (i + 1))).map adD), .d (.int (i : Nat)), .d j.data, .un] (tAnd (tTest (tOp (rNeD K) (tVar 1) (tLst tNil))) (tTest (tOp rEq (tOp (rIxT K) (tVar 0) (tC (.int 0))) (tC (.str "seq"))))) b := fun i j b e => by
        rw [← e]
        refine semt_and (semt_T (sem_op (sem_varL rfl) (sem_lst (ds := []) sema_nil (by decide)) (rvd_neL' (sh_ads _) sh_lnil ?_))) fun _ => semt_T (sem_op (sem_op (sem_var rfl) sem_int (rvd_ixT rfl)) sem_str (rvd_eqS' (gw_seq p)))
        rw [eqv_lnil]
        cases chAll 0 (js.take (i + 1)) <;> rfl
      have at_ : ∀ (i : Nat) (x : PyData), (pairs0 (Job.datas js))[i]? = some x → ∃ j, js[i]? = some j ∧ x = .tuple [.int (i : Nat), j.data] := fun i x hx => by
        unfold pairs0 at hx
        rw [List.getElem?_mapIdx] at hx
        obtain ⟨y, hy, rfl⟩ := Option.map_eq_some_iff.mp hx
        obtain ⟨j, hj, rfl⟩ := datas_at hy
        exact ⟨j, hj, rfl⟩
      let bd : TS := tSeq (tDrop (tBM K "list" rExtend (tVar 1) (tCons (tLc (iList K (tCall (spF K (pr_choices_by L)) [] E0 (tCons (tVar 3) tNil))) (gName 4) tYes (tOp (rCatA K) (tTup (tCons (tVar 2) tNil)) (tVar 4)) [4]) tNil))) (tIfS (tAnd (tTest (tOp (rNeD K) (tVar 1) (tLst tNil))) (tTest (tOp rEq (tOp (rIxT K) (tVar 0) (tC (.int 0))) (tC (.str "seq"))))) (tRet (tVar 1)) tNext)
      have turn : ∀ (i : Nat) (x : PyData), (pairs0 (Job.datas js))[i]? = some x → (!(chAll 0 (js.take (i + 1))).isEmpty && !p) = false → ∃ Γ1 ks, SemG K (gTup K 2 (gCons (gName 2) (gCons (gName 3) gNil))) x (Γs i) Γ1 ks ∧ (SemB K Γ1 bd (.nx (Γs (i + 1))) ∨ SemB K Γ1 bd (.ct (Γs (i + 1)))) := fun i x hx e => by
        obtain ⟨j, hj, rfl⟩ := at_ i x hx
        exact ⟨_, _, tgt i j, .inl (SemB.weak (semb_seq (ext i j hj) (semb_if (tst i j false e) (fun z => by cases z) fun _ => semb_next (K := K))) (.eq rfl (.eq rfl (.un (.un (.un .nil))))))⟩
      have full : js.take (pairs0 (Job.datas js)).length = js := by rw [pairs0_len, datas_len, List.take_length]
      cases p with
      | true =>
        refine semb_seq (semb_for Γs walk fun i x hx => turn i x hx (by simp)) ?_
        show SemB K [_, .l ((chAll 0 (js.take (pairs0 (Job.datas js)).length)).map adD), _, _, _] _ _
        rw [full, Job.choices, choicesL_par]
        exact semb_retL rfl
      | false =>
        rcases first_choice js with hno | ⟨k, x, hk, hne, hb⟩
        · obtain ⟨e1, e2⟩ := choicesL_none 0 js hno
          refine semb_seq (semb_for Γs walk fun i x hx => turn i x hx ?_) ?_
          · rw [(choicesL_none 0 (js.take (i + 1)) fun j hj => hno j (List.mem_of_mem_take hj)).2]
            rfl
          · show SemB K [_, .l ((chAll 0 (js.take (pairs0 (Job.datas js)).length)).map adD), _, _, _] _ _
            rw [full, Job.choices, e1, e2]
            exact semb_retL rfl
        · refine semb_seqR (semb_forR Γs k walk (fun i y hi hy => turn i y hy ?_) ⟨.tuple [.int (k : Nat), x.data], ?_, _, _, tgt k x, ?_⟩)
          · rw [chAll_empty fun m z hm hz => hb m z (by omega) hz]
            rfl
          · exact pairs0_at (by rw [datas_map, List.getElem?_map, hk]; rfl)
          · have e3 : chAll 0 (js.take (k + 1)) = x.choices.map (k :: ·) := by rw [chAll_take hk, chAll_empty hb]; rfl
            rw [Job.choices, choicesL_first 0 js k x hk hne hb, Nat.zero_add]
            refine semb_seq (ext k x hk) ?_
            have tt := tst k x true (by rw [e3]; cases hc : x.choices with | nil => exact absurd hc hne | cons a b => rfl)
            rw [e3] at tt ⊢
            exact semb_if tt (fun _ => semb_retL rfl) fun z => by cases z
end
end RP
end
section
set_option maxHeartbeats 4000000
namespace RP
open PySem PySem.Spec PyProof.Rows L2
section
variable {P : Program} {w : World} {K : PySem.W.Frag} {mg : Str → Option Value} {base : Heap} {Γ : List Sl} {te : TE} {E : XK}
theorem atI_zero {α : Type} {x : α} {ds : List α} : atI (x :: ds) 0 = some x := by
  unfold atI ixN
  rw [if_pos (by omega), if_pos (by rw [List.length_cons]; omega)]
  rfl
theorem rvd_inAd {c : List Nat} {cs : List (List Nat)} (h : c ∈ cs) : RvD K (rInD K) (.d (adD c)) (.l (cs.map adD)) (.d (.bool true)) := by
  have := rvd_inD' (K := K) (sh_ad c) (sh_ads cs)
  rw [ads_any h] at this
  exact this
theorem choice_pa {j : Job} {c : List Nat} (h : c ∈ j.choices) : ∃ v, j.Ch c v ∧ Pa c j v := by
  obtain ⟨v, hv⟩ := ch_of j c h
  exact ⟨v, hv, ch_pa c j v hv⟩
def pr_is_choice_by : List Rk → Rk → Prop := fun rs r => ∃ (j : Job) (c : List Nat), rs = [.d j.data, .d (adD c)] ∧ r = .d (.bool true) ∧ c ∈ j.choices ∧ j.depth ≤ 14 ∧ j.nodes ≤ 1000
theorem w_is_choice_by (T : Tx K mg) : Df P w K mg base CX0 17 "is_choice_by" p_is_choice_by (spF K pr_is_choice_by) := by
  have g_is_address_by := w_is_address_by (P := P) (w := w) (base := base) T
  have g_choices_by := w_choices_by (P := P) (w := w) (base := base) T 14
  refine df_sem (N := n_is_choice_by) (k := 16) T.f_is_choice_by (fun _ _ _ _ _ _ us hl => match us, hl with | [_, _], _ => rfl) sc_is_choice_by (fun rs r h => by obtain ⟨j, c, rfl, _⟩ := h; rfl) ?_
  intro rs r h f cdv A outer s H E hr
  refine ⟨_, (pss_one (ps_ret (pe_and (pe_df g_is_address_by hr (by omega) pass0 rfl (pa_cons (pv 0) (pa_cons (pv 1) pa_nil))) (pe_one (pe_cmpR (op_inD (room65 hr)) (pv 1) (pe_df g_choices_by hr (by omega) pass0 rfl (pa_cons (pv 0) pa_nil)) (by rfl)))))), ?_⟩
  obtain ⟨j, c, rfl, rfl, hc, hd, hn⟩ := h
  obtain ⟨v, hv, hp⟩ := choice_pa hc
  exact ⟨.rt (.d (.bool true)), semb_ret (sem_and (a := true) (b := true) (sem_call (sema_cons (sem_var rfl) (sema_cons (sem_var rfl) sema_nil)) ⟨j, c, v, rfl, rfl, hp⟩) fun _ => sem_op (sem_var rfl) (sem_call (sema_cons (sem_var rfl) sema_nil) ⟨j, rfl, rfl, hd, by omega, hn⟩) (rvd_inAd hc)), .inl rfl⟩
def pr_check_choice : List Rk → Rk → Prop := fun rs r => ∃ (j : Job) (c : List Nat), rs = [.d j.data, .d (adD c)] ∧ r = .d .none ∧ c ∈ j.choices ∧ j.depth ≤ 14 ∧ j.nodes ≤ 1000
theorem w_check_choice (T : Tx K mg) : Df P w K mg base CX0 18 "check_choice" p_check_choice (spF K pr_check_choice) := by
  have g_is_choice_by := w_is_choice_by (P := P) (w := w) (base := base) T
  refine df_sem (N := n_check_choice) (k := 17) T.f_check_choice (fun _ _ _ _ _ _ us hl => match us, hl with | [_, _], _ => rfl) sc_check_choice (fun rs r h => by obtain ⟨j, c, rfl, _⟩ := h; rfl) ?_
  intro rs r h f cdv A outer s H E hr
  refine ⟨_, (pss_one (ps_if (pt_not (pt_val (pe_df g_is_choice_by hr (by omega) pass0 rfl (pa_cons (pv 0) (pa_cons (pv 1) pa_nil))))) (pss_one ps_never) pss_nil)), ?_⟩
  obtain ⟨j, c, rfl, rfl, hc, hd, hn⟩ := h
  exact ⟨_, semb_if (b := false) (semt_not (b := true) (semt_B (sem_call (sema_cons (sem_var rfl) (sema_cons (sem_var rfl) sema_nil)) ⟨j, c, rfl, rfl, hc, hd, hn⟩))) (fun z => by cases z) fun _ => semb_next, .inr ⟨_, rfl, rfl⟩⟩
def pr_choices : List Rk → Rk → Prop := fun rs r => ∃ j : Job, rs = [.d j.data] ∧ r = .d (.tuple (j.choices.map adD)) ∧ j.Ok 13
theorem sem_cbL {o : List V → Hp → VK → Prop} {ta : TE} {ds : List PyData} {r : Rk} (ha : Sem K Γ ta (.l ds)) (h : CvD K o [.s ds] r) : Sem K Γ (tCB o (tCons ta tNil)) r := sem_cb (sema_consL ha sema_nil) h
theorem w_choices (T : Tx K mg) : Df P w K mg base CX0 32 "choices" p_choices (spF K pr_choices) := by
  have g_check_job := w_check_job (P := P) (w := w) (base := base) T
  have g_choices_by := w_choices_by (P := P) (w := w) (base := base) T 13
  refine df_sem (N := n_choices) (k := 31) T.f_choices (fun _ _ _ _ _ _ us hl => match us, hl with | [_], _ => rfl) sc_choices (fun rs r h => by obtain ⟨j, rfl, _⟩ := h; rfl) ?_
  intro rs r h f cdv A outer s H E hr
  refine ⟨_, (pss_cons (ps_expr (pe_df g_check_job hr (by omega) pass0 rfl (pa_cons (pv 0) pa_nil)))
    (pss_one (ps_ret (pe_callTy call_tuple_of rfl T.b_tuple (by decide +kernel) (pa_cons (pe_df g_choices_by hr (by omega) pass0 rfl (pa_cons (pv 0) pa_nil)) pa_nil))))), ?_⟩
  obtain ⟨j, rfl, rfl, ok⟩ := h
  have h1 := ok.depth
  have h2 := ok.nodes
  exact ⟨_, semb_seq (semb_expr (sem_call (sema_cons (sem_var rfl) sema_nil) ⟨j, rfl, rfl, ok⟩)) (semb_ret (sem_cbL (sem_call (sema_cons (sem_var rfl) sema_nil) ⟨j, rfl, rfl, h1, by omega, by omega⟩) cvd_tupleL)), .inl rfl⟩
/-! ### what a step leaves -/
def pr_left_by (L : Nat) : List Rk → Rk → Prop := fun rs r => ∃ (j : Job) (c : List Nat) (v : Int), rs = [.d j.data, .d (adD c)] ∧ r = .d (j.left c).data ∧ j.Ch c v ∧ j.depth ≤ L ∧ j.nodes ≤ 400
theorem b_left_by : ∀ (kV doc pm : Value) (an : Option Addr) (cdv ct : Value) (us : List Value), us.length = p_left_by.length → bindArgs (PySem.W.fnOf "left_by" "left_by" (defArgs s_left_by) (defBody s_left_by) (defScope s_left_by) .none kV doc pm an cdv ct) ⟨us, []⟩ = pure (p_left_by.zip us) :=
  fun _ _ _ _ _ _ us hl => match us, hl with | [_, _], _ => rfl
theorem sem_tail {i : Nat} {c : List Nat} (h : Sem K Γ te (.d (adD (i :: c)))) : Sem K Γ (tSl (rSlA K) te (tPart (tC (.int 1))) tNoPart) (.d (adD c)) := sem_slT (ds := (i :: c).map fun i => PyData.int (i : Nat)) h (semo_some sem_int) semo_none cut_tail
theorem rvd_catA' {ds es fs : List PyData} (hl : ds.length + es.length ≤ 1000) (e : ds ++ es = fs) : RvD K (rCatA K) (.d (.tuple ds)) (.d (.tuple es)) (.d (.tuple fs)) := e ▸ rvd_catA hl
theorem w_left_by (T : Tx K mg) : ∀ L : Nat, Df P w K mg base CX0 (L + 2) "left_by" p_left_by (spF K (pr_left_by L))
  | 0 => df_none T.f_left_by b_left_by fun rs r h => by
    obtain ⟨j, _, _, _, _, _, h1, _⟩ := h
    have hd1 := depth_pos j
    omega
  | L + 1 => by
    have g_left_by := w_left_by T L
    have g_is_node := w_is_node (P := P) (w := w) (base := base) T
    refine df_sem (N := n_left_by) (k := L + 2) T.f_left_by b_left_by sc_left_by (fun rs r h => by obtain ⟨j, c, v, rfl, _⟩ := h; rfl) ?_
    intro rs r h f cdv A outer s H E hr
    refine ⟨_, (pss_cons (ps_if (pt_not (pt_val (pe_df g_is_node hr (by omega) pass0 rfl (pa_cons (pv 0) pa_nil)))) (pss_one (ps_ret (pe_gref rfl T.c_EMPTY_jobs))) pss_nil)
    (pss_cons (ps_if (pt_cmpR op_in_seq (pe_ix ix_tup (pv 0) pe_int (fun _ _ => rfl)) (pe_gref rfl T.c_GROUPS) (by rfl)) (pss_cons (ps_set (i := 2) sc_left_by.nd rfl (Or.inl rfl) (pe_ix ix_tup (pv 1) pe_int (fun _ _ => rfl)))
    (pss_cons (ps_set (i := 3) sc_left_by.nd rfl (Or.inl rfl) (pe_df g_left_by hr (by omega) pass0 rfl (pa_cons (pe_ix ix_tup (pe_ix ix_tup (pv 0) pe_int (fun _ _ => rfl)) (pv 2) (fun _ _ => rfl)) (pa_cons (pe_slice sl_tupA (pv 1) (po_some pe_int) po_none) pa_nil))))
    (pss_cons (ps_set (i := 4) sc_left_by.nd rfl (Or.inl rfl) (pe_ifExp (pt_cmpR op_eq (pe_ix ix_tup (pv 0) pe_int (fun _ _ => rfl)) pe_str (nomark _)) (pe_tup pa_nil) (pe_slice sl_tupA (pe_ix ix_tup (pv 0) pe_int (fun _ _ => rfl)) po_none (po_some (pv 2)))))
    (pss_one (ps_ret (pe_tup (pa_cons (pe_ix ix_tup (pv 0) pe_int (fun _ _ => rfl)) (pa_cons (pe_op (op_catK (K := K)) (pe_op (op_catK (K := K)) (pv 4) (pe_tup (pa_cons (pv 3) pa_nil))) (pe_slice sl_tupA (pe_ix ix_tup (pv 0) pe_int (fun _ _ => rfl)) (po_some (pe_op op_add (pv 2) pe_int)) po_none)) pa_nil)))))))) pss_nil)
    (pss_cons (ps_asg (pv 0) (pg_tup rfl (pgs_cons (pg_name (i := 5) sc_left_by.nd rfl (Or.inl rfl)) (pgs_cons (pg_name (i := 6) sc_left_by.nd rfl (Or.inl rfl)) (pgs_cons (pg_name (i := 7) sc_left_by.nd rfl (Or.inl rfl)) pgs_nil)))))
    (pss_cons (ps_set (i := 8) sc_left_by.nd rfl (Or.inl rfl) (pe_tup (pa_cons (pv 5) (pa_cons (pe_op op_sub (pv 6) pe_int) (pa_cons (pv 7) pa_nil)))))
    (pss_one (ps_ret (pe_tup (pa_cons (pe_ifExp (pt_cmpR op_eq (pv 5) pe_str (nomark _)) pe_str pe_str) (pa_cons (pe_tup (pa_cons (pe_df g_left_by hr (by omega) pass0 rfl (pa_cons (pv 7) (pa_cons (pe_slice sl_tupA (pv 1) (po_some pe_int) po_none) pa_nil))) (pa_cons (pv 8) pa_nil))) pa_nil))))))))), ?_⟩
    obtain ⟨j, c, v, rfl, rfl, hc, hL, hn⟩ := h
    refine ⟨.rt (.d (j.left c).data), ?_, .inl rfl⟩
    cases j with
    | step i => exact semb_seqR (semb_if (b := true) (semt_not (b := false) (st_nodeI (sem_var rfl))) (fun _ => semb_ret (sem_k T.k_EMPTY_jobs)) fun z => by cases z)
    | grp p js =>
      rw [Job.depth] at hL
      rw [Job.nodes] at hn
      cases c with
      | nil => rw [Job.Ch] at hc; exact hc.elim
      | cons i c =>
        rw [Job.Ch] at hc
        obtain ⟨x, hx, hv⟩ := chL_at hc
        have hmem := List.mem_of_getElem? hx
        have h1 := mem_depths hmem
        have h2 := mem_nodesL hmem
        have hlen := len_nodesL js
        have hil := (List.getElem?_eq_some_iff.mp hx).1
        refine semb_seq (semb_if (b := false) (semt_not (b := true) (st_nodeT (sem_var rfl))) (fun z => by cases z) fun _ => semb_next) ?_
        refine semb_seqR (semb_if (b := true) (semt_T (sem_op (sem_op (sem_var rfl) sem_int (rvd_ixT rfl)) (sem_k T.k_GROUPS) (rvd_inW' (ws := ["seq", "par"]) rfl (in_groups p)))) (fun _ => ?_) fun z => by cases z)
        refine semb_seq (semb_set (sem_op (sem_var (x := .tuple ((i :: c).map fun i => PyData.int (i : Nat))) rfl) sem_int (rvd_ixT (x := .int (i : Nat)) (atI_zero (ds := c.map fun i => PyData.int (i : Nat))))) ) ?_
        refine semb_seq (semb_set (sem_call (sema_cons (sem_op (sem_op (sem_var rfl) sem_int (rvd_ixT (x := .tuple (Job.datas js)) rfl)) (sem_var rfl) (rvd_ixT (datas_get hx))) (sema_cons (sem_tail (i := i) (sem_var rfl)) sema_nil)) ⟨x, c, v, rfl, rfl, hv, by omega, by omega⟩)) ?_
        refine semb_seq (semb_set (r := .d (.tuple (Job.datas (if p then js.take i else [])))) (sem_if (b := !p) (semt_T (sem_op (sem_op (sem_var rfl) sem_int (rvd_ixT rfl)) sem_str (rvd_eqS' (gw_seq p)))) (fun e => ?_) fun e => ?_)) ?_
        · have e2 : p = false := by simpa using e
          subst e2
          exact sem_tup (ds := []) sema_nil (by decide)
        · have e2 : p = true := by simpa using e
          subst e2
          rw [if_pos rfl]
          refine sem_slT (ds := Job.datas js) (sem_op (sem_var rfl) sem_int (rvd_ixT rfl)) semo_none (semo_some (sem_var rfl)) ?_
          rw [cut_to (by rw [datas_len]; omega), datas_map, datas_map, List.map_take]
        · rw [Job.left, leftL_eq hx]
          have hz : (if p then js.take i else []).length ≤ 400 := by
            split
            · rw [List.length_take]; omega
            · simp
          generalize (if p then js.take i else []) = early at hz
          refine semb_ret (sem_tup (ds := [_, _]) (sema_cons (sem_op (sem_var rfl) sem_int (rvd_ixT (x := .str (gw p)) rfl)) (sema_cons (sem_op (r2 := .d (.tuple (Job.datas (js.drop (i + 1))))) (sem_op (sem_var rfl) (sem_tup (ds := [_]) (sema_cons (sem_var rfl) sema_nil) (by simp)) (rvd_catA (by rw [datas_len]; simp only [List.length_cons, List.length_nil]; omega))) ?_ (rvd_catA' (fs := Job.datas (early ++ x.left c :: js.drop (i + 1))) ?_ ?_)) sema_nil)) (by simp))
          · refine sem_slT (lo := some ((i + 1 : Nat) : Int)) (ds := Job.datas js) (sem_op (sem_var rfl) sem_int (rvd_ixT rfl)) (semo_some (sem_op (sem_var rfl) sem_int ?_)) semo_none ?_
            · exact rvd_add
            · rw [cut_from (by rw [datas_len]; omega), datas_map, datas_map, List.map_drop]
          · simp only [List.length_append, datas_len, List.length_cons, List.length_nil, List.length_drop]
            omega
          · simp only [datas_map, List.map_append, List.map_cons, List.append_assoc, List.singleton_append]
    | mul d n k =>
      rw [Job.depth] at hL
      rw [Job.nodes] at hn
      cases c with
      | nil => rw [Job.Ch] at hc; exact hc.elim
      | cons i c =>
        rw [Job.Ch] at hc
        obtain ⟨rfl, h0, hv⟩ := hc
        refine semb_seq (semb_if (b := false) (semt_not (b := true) (st_nodeT (sem_var rfl))) (fun z => by cases z) fun _ => semb_next) ?_
        refine semb_seq (semb_if (b := false) (semt_T (sem_op (sem_op (sem_var rfl) sem_int (rvd_ixT rfl)) (sem_k T.k_GROUPS) (rvd_inW' (ws := ["seq", "par"]) rfl (in_groups_mw d)))) (fun z => by cases z) fun _ => semb_next) ?_
        refine semb_seq (semb_asg (sem_var rfl) (semg_tup (xs := [.str (mw d), .int (n : Int), k.data]) rfl (semgs_cons semg_name (semgs_cons semg_name (semgs_cons semg_name semgs_nil))))) ?_
        refine semb_seq (semb_set (sem_tup (ds := [_, _, _]) (sema_cons (sem_var rfl) (sema_cons (sem_op (sem_var rfl) sem_int rvd_sub) (sema_cons (sem_var rfl) sema_nil))) (by simp))) ?_
        rw [Job.left]
        have e1 : (Job.grp d [k.left c, .mul d (n - 1) k]).data = .tuple [.str (gw d), .tuple [(k.left c).data, .tuple [.str (mw d), .int ((n : Int) - 1), k.data]]] := by
          have : ((n - 1 : Nat) : Int) = (n : Int) - 1 := by omega
          rw [← this]
          rfl
        rw [e1]
        refine semb_ret (sem_tup (ds := [_, _]) (sema_cons (sem_if (b := !d) (semt_T (sem_op (sem_var rfl) sem_str (rvd_eqS' ?_))) (fun e => ?_) fun e => ?_) (sema_cons (sem_tup (ds := [_, _]) (sema_cons (sem_call (sema_cons (sem_var rfl) (sema_cons (sem_tail (i := 0) (sem_var rfl)) sema_nil)) ⟨k, c, v, rfl, rfl, hv, by omega, by omega⟩) (sema_cons (sem_var rfl) sema_nil)) (by simp)) sema_nil)) (by simp))
        · cases d <;> decide +kernel
        · have e2 : d = false := by simpa using e
          subst e2
          exact sem_str
        · have e2 : d = true := by simpa using e
          subst e2
          exact sem_str
def pr_remainder_by : List Rk → Rk → Prop := fun rs r => ∃ (j : Job) (c : List Nat) (v : Int), rs = [.d j.data, .d (adD c)] ∧ r = .d (j.left c).tidy.data ∧ j.Ch c v ∧ j.depth ≤ 7 ∧ j.nodes ≤ 100 ∧ j.Good
theorem w_remainder_by (T : Tx K mg) : Df P w K mg base CX0 19 "remainder_by" p_remainder_by (spF K pr_remainder_by) := by
  have g_tidy_by := w_tidy_by (P := P) (w := w) (base := base) T 14
  have g_left_by := w_left_by (P := P) (w := w) (base := base) T 13
  refine df_sem (N := n_remainder_by) (k := 18) T.f_remainder_by (fun _ _ _ _ _ _ us hl => match us, hl with | [_, _], _ => rfl) sc_remainder_by (fun rs r h => by obtain ⟨j, c, v, rfl, _⟩ := h; rfl) ?_
  intro rs r h f cdv A outer s H E hr
  refine ⟨_, (pss_one (ps_ret (pe_df g_tidy_by hr (by omega) pass0 rfl (pa_cons (pe_df g_left_by hr (by omega) pass0 rfl (pa_cons (pv 0) (pa_cons (pv 1) pa_nil))) pa_nil)))), ?_⟩
  obtain ⟨j, c, v, rfl, rfl, hc, hd, hn, hg⟩ := h
  have h1 := depth_left j c v hc
  have h2 := nodes_left 7 j c v hc hd
  exact ⟨_, semb_ret (sem_call (sema_cons (sem_call (sema_cons (sem_var rfl) (sema_cons (sem_var rfl) sema_nil)) ⟨j, c, v, rfl, rfl, hc, by omega, by omega⟩) sema_nil) ⟨j.left c, rfl, rfl, by omega, by omega, by omega, good_left j c v hc hg⟩), .inl rfl⟩
theorem Held.ok {k : Nat} {j : Job} (h : Held k j) : j.Ok 13 := by
  have := h.depth
  have := h.nodes
  exact ⟨by omega, by omega, h.good⟩
def pr_do_step : List Rk → Rk → Prop := fun rs r => ∃ (k : Nat) (j : Job) (c : List Nat), rs = [.d j.data, .d (adD c)] ∧ r = .d (j.left c).tidy.data ∧ c ∈ j.choices ∧ Held (k + 1) j
theorem w_do_step (T : Tx K mg) : Df P w K mg base CX0 32 "do_step" p_do_step (spF K pr_do_step) := by
  have g_check_job := w_check_job (P := P) (w := w) (base := base) T
  have g_as_job := w_as_job (P := P) (w := w) (base := base) T
  have g_check_choice := w_check_choice (P := P) (w := w) (base := base) T
  have g_remainder_by := w_remainder_by (P := P) (w := w) (base := base) T
  refine df_sem (N := n_do_step) (k := 31) T.f_do_step (fun _ _ _ _ _ _ us hl => match us, hl with | [_, _], _ => rfl) sc_do_step (fun rs r h => by obtain ⟨k, j, c, rfl, _⟩ := h; rfl) ?_
  intro rs r h f cdv A outer s H E hr
  refine ⟨_, (pss_cons (ps_expr (pe_df g_check_job hr (by omega) pass0 rfl (pa_cons (pv 0) pa_nil)))
    (pss_cons (ps_expr (pe_df g_check_choice hr (by omega) pass0 rfl (pa_cons (pv 0) (pa_cons (pv 1) pa_nil))))
    (pss_one (ps_ret (pe_df g_as_job hr (by omega) pass0 rfl (pa_cons (pe_df g_remainder_by hr (by omega) pass0 rfl (pa_cons (pv 0) (pa_cons (pv 1) pa_nil))) pa_nil)))))), ?_⟩
  obtain ⟨k, j, c, rfl, rfl, hc, hh⟩ := h
  obtain ⟨v, hv, hp⟩ := choice_pa hc
  have h1 := hh.depth
  have h2 := hh.nodes
  exact ⟨_, semb_seq (semb_expr (sem_call (sema_cons (sem_var rfl) sema_nil) ⟨j, rfl, rfl, hh.ok⟩)) (semb_seq (semb_expr (sem_call (sema_cons (sem_var rfl) (sema_cons (sem_var rfl) sema_nil)) ⟨j, c, rfl, rfl, hc, by omega, by omega⟩))
    (semb_ret (sem_call (sema_cons (sem_call (sema_cons (sem_var rfl) (sema_cons (sem_var rfl) sema_nil)) ⟨j, c, v, rfl, rfl, hv, by omega, by omega, hh.good⟩) sema_nil) ⟨_, rfl, rfl, (hh.step hv).ok⟩))), .inl rfl⟩
end
end RP
end
section
set_option maxHeartbeats 2000000
namespace RP
open PySem
abbrev Pr := Int × Int
def prD (p : Pr) : PyData := .tuple [.int p.1, .int p.2]
def prsD (ps : List Pr) : PyData := .tuple (ps.map prD)
def lx (a b : Pr) : Bool := SrtO.lexB a b
def srt (ps : List Pr) : List Pr := ps.mergeSort fun a b => !lx b a
theorem lx_no {a b : Pr} : lx a b = false ↔ ¬ (a.1 < b.1 ∨ (a.1 = b.1 ∧ a.2 < b.2)) := SrtO.lexB_no
theorem srt_perm (ps : List Pr) : (srt ps).Perm ps := List.mergeSort_perm _ _
theorem srt_sorted (ps : List Pr) : (srt ps).Pairwise fun a b => lx b a = false := by
  have h := List.pairwise_mergeSort (le := fun a b : Pr => !lx b a) (fun a b c h1 h2 => by
    simp only [Bool.not_eq_true'] at h1 h2 ⊢
    rw [lx_no] at h1 h2 ⊢
    omega) (fun a b => by
    simp only [Bool.or_eq_true, Bool.not_eq_true']
    rw [lx_no, lx_no]
    omega) ps
  exact h.imp fun {a b} h => by simpa using h
theorem sorted_one : ∀ {l m : List Pr}, l.Pairwise (fun a b => lx b a = false) → m.Pairwise (fun a b => lx b a = false) → l.Perm m → l = m
  | [], m, _, _, h => (List.Perm.eq_nil h.symm).symm
  | x :: l, [], _, _, h => absurd h.length_eq (by simp)
  | x :: l, y :: m, hl, hm, h => by
    have e : x = y := by
      rcases List.mem_cons.mp (h.mem_iff.mp List.mem_cons_self) with e | hx
      · exact e
      · rcases List.mem_cons.mp (h.mem_iff.mpr List.mem_cons_self) with e | hy
        · exact e.symm
        · have h1 := List.rel_of_pairwise_cons hl hy
          have h2 := List.rel_of_pairwise_cons hm hx
          rw [lx_no] at h1 h2
          obtain ⟨a, b⟩ := x
          obtain ⟨c, d⟩ := y
          simp only at h1 h2
          have : a = c ∧ b = d := by omega
          rw [this.1, this.2]
    subst e
    rw [sorted_one (List.pairwise_cons.mp hl).2 (List.pairwise_cons.mp hm).2 h.cons_inv]
def minP (p : Pr) (ps : List Pr) : Pr := ps.foldl (fun a y => if lx y a then y else a) p
theorem minP_mem : ∀ (ps : List Pr) (p : Pr), minP p ps ∈ p :: ps
  | [], p => List.mem_singleton_self _
  | y :: ps, p => by
    unfold minP
    rw [List.foldl_cons]
    have h := minP_mem ps (if lx y p then y else p)
    unfold minP at h
    rcases List.mem_cons.mp h with e | e
    · rw [e]
      split
      · exact List.mem_cons_of_mem _ List.mem_cons_self
      · exact List.mem_cons_self
    · exact List.mem_cons_of_mem _ (List.mem_cons_of_mem _ e)
def imax (i j : Int) : Int := if j > i then j else i
def mxL (x : Int) (xs : List Int) : Int := xs.foldl max x
theorem le_mxL : ∀ (xs : List Int) (x : Int), x ≤ mxL x xs ∧ (∀ y ∈ xs, y ≤ mxL x xs) ∧ (mxL x xs = x ∨ mxL x xs ∈ xs)
  | [], x => ⟨Int.le_refl _, fun _ h => absurd h (by simp), .inl rfl⟩
  | y :: xs, x => by
    obtain ⟨h1, h2, h3⟩ := le_mxL xs (max x y)
    have e : mxL x (y :: xs) = mxL (max x y) xs := rfl
    rw [e]
    refine ⟨by omega, fun z hz => ?_, ?_⟩
    · rcases List.mem_cons.mp hz with rfl | hz
      · omega
      · exact h2 z hz
    · rcases h3 with h3 | h3
      · by_cases hxy : x ≤ y
        · exact .inr (by rw [h3, Int.max_eq_right hxy]; exact List.mem_cons_self)
        · exact .inl (by rw [h3, Int.max_eq_left (by omega)])
      · exact .inr (List.mem_cons_of_mem _ h3)
def lastP (ps : List Pr) : Pr := ps.getLast?.getD (0, 0)
theorem lastP_mem {ps : List Pr} (h : ps ≠ []) : lastP ps ∈ ps := by
  unfold lastP
  rw [List.getLast?_eq_some_getLast h]
  exact List.getLast_mem h
theorem lastP_append (ps : List Pr) (p : Pr) : lastP (ps ++ [p]) = p := by
  unfold lastP
  simp
def dstep (acc : List Pr) (p : Pr) : List Pr := if acc = [] ∨ p.2 < (lastP acc).2 then acc ++ [p] else acc
def dsc (ps : List Pr) : List Pr := ps.foldl dstep []
def desc (ps : List Pr) : List Pr := dsc (srt ps)
theorem dfold_mem : ∀ (ps acc : List Pr) (p : Pr), p ∈ ps.foldl dstep acc → p ∈ acc ∨ p ∈ ps
  | [], acc, p, h => .inl h
  | q :: ps, acc, p, h => by
    rw [List.foldl_cons] at h
    rcases dfold_mem ps _ p h with h | h
    · unfold dstep at h
      split at h
      · rcases List.mem_append.mp h with h | h
        · exact .inl h
        · rw [List.mem_singleton] at h
          exact .inr (by rw [h]; exact List.mem_cons_self)
      · exact .inl h
    · exact .inr (List.mem_cons_of_mem _ h)
theorem dstep_ne (acc : List Pr) (p : Pr) : dstep acc p ≠ [] := by
  unfold dstep
  split
  · simp
  · rename_i h
    intro e
    exact h (.inl e)
theorem dfold_ne : ∀ (ps acc : List Pr), acc ≠ [] → ps.foldl dstep acc ≠ []
  | [], acc, h => h
  | q :: ps, acc, h => by
    rw [List.foldl_cons]
    exact dfold_ne ps _ (dstep_ne _ _)
theorem dfold_len : ∀ (ps acc : List Pr), (ps.foldl dstep acc).length ≤ acc.length + ps.length
  | [], acc => by simp
  | q :: ps, acc => by
    have h := dfold_len ps (dstep acc q)
    have h2 : (dstep acc q).length ≤ acc.length + 1 := by
      unfold dstep
      split
      · simp
      · omega
    rw [List.foldl_cons, List.length_cons]
    omega
theorem desc_mem {ps : List Pr} {p : Pr} (h : p ∈ desc ps) : p ∈ ps := by
  rcases dfold_mem _ _ _ h with h | h
  · cases h
  · exact (srt_perm ps).mem_iff.mp h
theorem desc_ne {ps : List Pr} (h : ps ≠ []) : desc ps ≠ [] := by
  unfold desc dsc
  cases e : srt ps with
  | nil =>
    have := (srt_perm ps).length_eq
    rw [e] at this
    exact absurd (List.eq_nil_of_length_eq_zero this.symm) h
  | cons x r =>
    rw [List.foldl_cons]
    exact dfold_ne _ _ (dstep_ne _ _)
theorem desc_len (ps : List Pr) : (desc ps).length ≤ ps.length := by
  have h := dfold_len (srt ps) []
  have := (srt_perm ps).length_eq
  unfold desc dsc
  simp only [List.length_nil, Nat.zero_add] at h
  omega
structure Prof where
  net : Int
  peak : Int
  s : List Pr
  e : List Pr
def Prof.data (f : Prof) : PyData := .tuple [.int f.net, .int f.peak, prsD f.s, prsD f.e]
def Prof.empty : Prof := ⟨0, 0, [(0, 0)], [(0, 0)]⟩
def stepP (v : Int) : Prof := if v > 0 then ⟨v, v, [(0, 0)], [(v, 0)]⟩ else ⟨v, 0, [(0, v)], [(v, v)]⟩
def mv (ps : List Pr) (a : Int) : List Pr := ps.map fun p => (p.1 + a, p.2 + a)
def early (ps : List Pr) (pk : Int) : List Pr := ps.filter fun p => decide (p.1 < pk)
def startB (f g : Prof) : List Pr := desc (early f.s f.peak ++ [(f.peak, (lastP f.s).2)] ++ (mv g.s f.net).map fun p => (imax f.peak p.1, p.2))
def endB (f g : Prof) : List Pr := desc (early (mv g.e f.net) (f.net + g.peak) ++ [(f.net + g.peak, f.net + (lastP g.e).2)] ++ f.e.map fun p => (imax (f.net + g.peak) p.1, p.2))
def two (f g : Prof) : Prof := ⟨f.net + g.net, imax f.peak (f.net + g.peak), startB f g, endB f g⟩
def seqP (fs : List Prof) : Prof := fs.foldl two .empty
/-! joint -/
structure JS where
  pl : List Nat
  lo : List Int
  ps : List Pr
  cap : Int
def dropAt (parts : List (List Pr)) (pl : List Nat) (lo : List Int) (n : Nat) : Option Pr :=
  if pl.getD n 0 + 1 < (parts.getD n []).length then some (((parts.getD n []).getD (pl.getD n 0 + 1) (0, 0)).1 + lo.sum - lo.getD n 0, (n : Int)) else none
def drops (parts : List (List Pr)) (pl : List Nat) (lo : List Int) : List Pr := (List.range parts.length).filterMap (dropAt parts pl lo)
def drop1 (parts : List (List Pr)) (pl : List Nat) (lo : List Int) : Option Pr :=
  match drops parts pl lo with
  | [] => none
  | p :: ps => some (minP p ps)
def JS.next (parts : List (List Pr)) (s : JS) : JS :=
  match drop1 parts s.pl s.lo with
  | none => s
  | some d =>
    let n := d.2.toNat
    let pl := s.pl.set n (s.pl.getD n 0 + 1)
    let lo := s.lo.set n ((parts.getD n []).getD (pl.getD n 0) (0, 0)).2
    ⟨pl, lo, s.ps ++ [(imax s.cap d.1, lo.sum)], imax s.cap d.1⟩
def low0 (parts : List (List Pr)) : List Int := parts.map fun v => (v.getD 0 (0, 0)).2
def jst (parts : List (List Pr)) : JS := ⟨parts.map fun _ => 0, low0 parts, [(0, (low0 parts).sum)], 0⟩
def jseq (parts : List (List Pr)) : Nat → JS
  | 0 => jst parts
  | n + 1 => (jseq parts n).next parts
def jlen (parts : List (List Pr)) : Nat := (parts.map List.length).sum
def joint (parts : List (List Pr)) : List Pr := desc (jseq parts (jlen parts)).ps
def netS (fs : List Prof) : Int := (fs.map Prof.net).sum
def lowest (fs : List Prof) : Int := (fs.map fun f => (lastP f.s).2).sum
def peakB (fs : List Prof) (s e : List Pr) : Int := mxL (lastP s).1 ((lastP e).1 :: fs.map fun f => f.peak + lowest fs - (lastP f.s).2)
def parS (fs : List Prof) : List Pr := joint (fs.map Prof.s)
def parE (fs : List Prof) : List Pr := mv (joint (fs.map fun f => mv f.e (0 - f.net))) (netS fs)
def parP (fs : List Prof) : Prof := ⟨netS fs, peakB fs (parS fs) (parE fs), parS fs, parE fs⟩
def roundsS (n net pk : Int) (s : List Pr) : List Pr := if net ≥ 0 then s else desc (early s pk ++ [(pk, (n - 1) * net + (lastP s).2)])
def repP (n : Int) (f : Prof) : Prof :=
  if n = 0 then .empty else ⟨n * f.net, f.peak + imax 0 (n * f.net - f.net), roundsS n f.net f.peak f.s, mv (roundsS n (0 - f.net) (f.peak - f.net) (mv f.e (0 - f.net))) (n * f.net)⟩
def copStep (n : Int) (st : List Pr × Int × Int) (p : Pr) : List Pr × Int × Int := (st.1 ++ [(imax st.2.1 (p.1 + (n - 1) * st.2.2), n * p.2)], imax st.2.1 (p.1 + (n - 1) * st.2.2), p.2)
def copS (n : Int) (s : List Pr) : List Pr := desc (s.foldl (copStep n) ([], 0, 0)).1
def imax3 (a b c : Int) : Int := if b > a then (if c > b then c else b) else (if c > a then c else a)
def copE (n : Int) (f : Prof) : List Pr := mv (copS n (mv f.e (0 - f.net))) (n * f.net)
def copP (n : Int) (f : Prof) : Prof :=
  if n = 0 then .empty else ⟨n * f.net, imax3 (f.peak + (n - 1) * (lastP f.s).2) (lastP (copS n f.s)).1 (lastP (copE n f)).1, copS n f.s, copE n f⟩
mutual
def Job.prof : Job → Prof
  | .step v => stepP v
  | .grp p js => if p then parP (Job.profs js) else seqP (Job.profs js)
  | .mul c n j => if c then copP n j.prof else repP n j.prof
def Job.profs : List Job → List Prof
  | [] => []
  | j :: js => j.prof :: Job.profs js
end
theorem profs_map : ∀ js : List Job, Job.profs js = js.map Job.prof
  | [] => rfl
  | j :: js => by rw [Job.profs, profs_map js]; rfl
end RP
end
section
set_option maxHeartbeats 2000000
namespace RP
open PySem
/-! ### sizes -/
structure Prof.Ne (f : Prof) : Prop where
  s : f.s ≠ []
  e : f.e ≠ []
def Prof.sz (f : Prof) : Nat := f.s.length + f.e.length
theorem early_len (ps : List Pr) (k : Int) : (early ps k).length ≤ ps.length := List.length_filter_le _ _
theorem mv_len (ps : List Pr) (a : Int) : (mv ps a).length = ps.length := List.length_map _
theorem mv_ne {ps : List Pr} {a : Int} (h : ps ≠ []) : mv ps a ≠ [] := fun e => h (List.map_eq_nil_iff.mp e)
theorem startB_ne (f g : Prof) : startB f g ≠ [] := desc_ne (by simp)
theorem endB_ne (f g : Prof) : endB f g ≠ [] := desc_ne (by simp)
theorem startB_len (f g : Prof) : (startB f g).length ≤ f.s.length + 1 + g.s.length := by
  have h := desc_len (early f.s f.peak ++ [(f.peak, (lastP f.s).2)] ++ (mv g.s f.net).map fun p => (imax f.peak p.1, p.2))
  have h2 := early_len f.s f.peak
  simp only [List.length_append, List.length_map, List.length_cons, List.length_nil, mv_len] at h
  unfold startB
  omega
theorem endB_len (f g : Prof) : (endB f g).length ≤ g.e.length + 1 + f.e.length := by
  have h := desc_len (early (mv g.e f.net) (f.net + g.peak) ++ [(f.net + g.peak, f.net + (lastP g.e).2)] ++ f.e.map fun p => (imax (f.net + g.peak) p.1, p.2))
  have h2 := early_len (mv g.e f.net) (f.net + g.peak)
  rw [mv_len] at h2
  simp only [List.length_append, List.length_map, List.length_cons, List.length_nil] at h
  unfold endB
  omega
theorem two_ne (f g : Prof) : (two f g).Ne := ⟨startB_ne f g, endB_ne f g⟩
theorem two_sz (f g : Prof) : (two f g).sz ≤ f.sz + g.sz + 2 := by
  have h1 := startB_len f g
  have h2 := endB_len f g
  unfold Prof.sz two
  simp only
  omega
theorem empty_ne : Prof.empty.Ne := ⟨by simp [Prof.empty], by simp [Prof.empty]⟩
theorem fold_ne : ∀ (fs : List Prof) (f : Prof), f.Ne → (fs.foldl two f).Ne
  | [], f, h => h
  | g :: fs, f, h => by
    rw [List.foldl_cons]
    exact fold_ne fs _ (two_ne f g)
def szS (fs : List Prof) : Nat := (fs.map fun f => f.sz + 2).sum
theorem szS_cons (f : Prof) (fs : List Prof) : szS (f :: fs) = f.sz + 2 + szS fs := rfl
theorem fold_sz : ∀ (fs : List Prof) (f : Prof), (fs.foldl two f).sz ≤ f.sz + szS fs
  | [], f => Nat.le_add_right _ _
  | g :: fs, f => by
    have h1 := fold_sz fs (two f g)
    have h2 := two_sz f g
    rw [List.foldl_cons, szS_cons]
    omega
theorem szS_take (fs : List Prof) (i : Nat) : szS (fs.take i) ≤ szS fs := by
  induction fs generalizing i with
  | nil => simp [szS]
  | cons f fs ih =>
    cases i with
    | zero => simp [szS]
    | succ i =>
      have := ih i
      rw [List.take_succ_cons, szS_cons, szS_cons]
      omega
/-! ### joint: how it goes -/
def fitsJ (parts : List (List Pr)) : Prop := ∀ v ∈ parts, v ≠ []
structure JInv (parts : List (List Pr)) (s : JS) (m : Nat) : Prop where
  pl : s.pl.length = parts.length
  lo : s.lo.length = parts.length
  at_ : ∀ k, k < parts.length → s.pl.getD k 0 < (parts.getD k []).length
  ps : s.ps.length ≤ m + 1
  ne : s.ps ≠ []
  cap : 0 ≤ s.cap
  caps : ∀ p ∈ s.ps, 0 ≤ p.1
theorem imax_ge (i j : Int) : i ≤ imax i j ∧ j ≤ imax i j ∧ (imax i j = i ∨ imax i j = j) := by
  unfold imax
  split <;> omega
theorem getD_set_self {α : Type} {l : List α} {k : Nat} {a d : α} (h : k < l.length) : (l.set k a).getD k d = a := by
  rw [List.getD_eq_getElem?_getD, List.getElem?_set_self h]
  rfl
theorem getD_set_ne {α : Type} {l : List α} {k m : Nat} {a d : α} (h : k ≠ m) : (l.set k a).getD m d = l.getD m d := by
  rw [List.getD_eq_getElem?_getD, List.getElem?_set_ne h, List.getD_eq_getElem?_getD]
theorem dropAt_some {parts : List (List Pr)} {pl : List Nat} {lo : List Int} {n : Nat} {d : Pr} (h : dropAt parts pl lo n = some d) : pl.getD n 0 + 1 < (parts.getD n []).length ∧ d = (((parts.getD n []).getD (pl.getD n 0 + 1) (0, 0)).1 + lo.sum - lo.getD n 0, (n : Int)) := by
  unfold dropAt at h
  split at h
  · rename_i hl
    exact ⟨hl, (Option.some.inj h).symm⟩
  · cases h
theorem drop1_some {parts : List (List Pr)} {pl : List Nat} {lo : List Int} {d : Pr} (h : drop1 parts pl lo = some d) : ∃ n, n < parts.length ∧ pl.getD n 0 + 1 < (parts.getD n []).length ∧ d = (((parts.getD n []).getD (pl.getD n 0 + 1) (0, 0)).1 + lo.sum - lo.getD n 0, (n : Int)) := by
  have hm : d ∈ drops parts pl lo := by
    unfold drop1 at h
    split at h
    · cases h
    · rename_i p ps e
      rw [e]
      rw [← Option.some.inj h]
      exact minP_mem ps p
  unfold drops at hm
  obtain ⟨n, hn, hd⟩ := List.mem_filterMap.mp hm
  obtain ⟨h1, h2⟩ := dropAt_some hd
  exact ⟨n, List.mem_range.mp hn, h1, h2⟩
theorem jst_inv {parts : List (List Pr)} (h : fitsJ parts) : JInv parts (jst parts) 0 where
  pl := by simp [jst]
  lo := by simp [jst, low0]
  at_ := fun k hk => by
    have e : (jst parts).pl.getD k 0 = 0 := by
      show (parts.map fun _ => 0).getD k 0 = 0
      rw [List.getD_eq_getElem?_getD, List.getElem?_map, List.getElem?_eq_getElem hk]
      rfl
    rw [e, List.getD_eq_getElem?_getD, List.getElem?_eq_getElem hk]
    exact List.length_pos_iff.mpr (h _ (List.getElem_mem hk))
  ps := by simp [jst]
  ne := by simp [jst]
  cap := Int.le_refl _
  caps := fun p hp => by
    have e : p = (0, (low0 parts).sum) := by
      have hp' : p ∈ [((0 : Int), (low0 parts).sum)] := hp
      exact List.mem_singleton.mp hp'
    rw [e]
    exact Int.le_refl _
theorem next_some {parts : List (List Pr)} {s : JS} {d : Pr} (h : drop1 parts s.pl s.lo = some d) : s.next parts = ⟨s.pl.set d.2.toNat (s.pl.getD d.2.toNat 0 + 1), s.lo.set d.2.toNat ((parts.getD d.2.toNat []).getD ((s.pl.set d.2.toNat (s.pl.getD d.2.toNat 0 + 1)).getD d.2.toNat 0) (0, 0)).2,
    s.ps ++ [(imax s.cap d.1, (s.lo.set d.2.toNat ((parts.getD d.2.toNat []).getD ((s.pl.set d.2.toNat (s.pl.getD d.2.toNat 0 + 1)).getD d.2.toNat 0) (0, 0)).2).sum)], imax s.cap d.1⟩ := by
  unfold JS.next
  rw [h]
theorem next_none {parts : List (List Pr)} {s : JS} (h : drop1 parts s.pl s.lo = none) : s.next parts = s := by
  unfold JS.next
  rw [h]
theorem next_inv {parts : List (List Pr)} {s : JS} {m : Nat} (I : JInv parts s m) : JInv parts (s.next parts) (m + 1) := by
  cases h : drop1 parts s.pl s.lo with
  | none =>
    rw [next_none h]
    exact ⟨I.pl, I.lo, I.at_, Nat.le_succ_of_le I.ps, I.ne, I.cap, I.caps⟩
  | some d =>
    obtain ⟨n, hn, hl, rfl⟩ := drop1_some h
    rw [next_some h]
    simp only [Int.toNat_natCast]
    have hc := imax_ge s.cap (((parts.getD n []).getD (s.pl.getD n 0 + 1) (0, 0)).1 + s.lo.sum - s.lo.getD n 0)
    have h0 := I.cap
    refine ⟨by simp only [List.length_set]; exact I.pl, by simp only [List.length_set]; exact I.lo, fun k hk => ?_, ?_, by simp, by show (0 : Int) ≤ imax _ _; omega, fun p hp => ?_⟩
    · show (s.pl.set n _).getD k 0 < _
      by_cases e : n = k
      · subst e
        rw [getD_set_self (by rw [I.pl]; exact hn)]
        exact hl
      · rw [getD_set_ne e]
        exact I.at_ k hk
    · simp only [List.length_append, List.length_cons, List.length_nil]
      have := I.ps
      omega
    · rcases List.mem_append.mp hp with hp | hp
      · exact I.caps p hp
      · rw [List.mem_singleton] at hp
        rw [hp]
        show (0 : Int) ≤ imax _ _
        omega
theorem jseq_inv {parts : List (List Pr)} (h : fitsJ parts) : ∀ n, JInv parts (jseq parts n) n
  | 0 => jst_inv h
  | n + 1 => next_inv (jseq_inv h n)
/-- it comes to an end -/
theorem sum_set {k : Nat} : ∀ {l : List Nat} (_ : k < l.length), (l.set k (l.getD k 0 + 1)).sum = l.sum + 1
  | [], h => by simp at h
  | x :: l, h => by
    cases k with
    | zero => simp [List.getD]; omega
    | succ k =>
      have ih := sum_set (k := k) (l := l) (by simpa using h)
      simp only [List.set_cons_succ, List.sum_cons, List.getD_cons_succ]
      omega
theorem sum_le_of {parts : List (List Pr)} : ∀ {pl : List Nat}, pl.length = parts.length → (∀ k, k < parts.length → pl.getD k 0 < (parts.getD k []).length) → pl.sum ≤ jlen parts := by
  induction parts with
  | nil =>
    intro pl h _
    have := List.eq_nil_of_length_eq_zero h
    subst this
    simp
  | cons v parts ih =>
    intro pl h hk
    cases pl with
    | nil => simp at h
    | cons x pl =>
      have h0 := hk 0 (by simp)
      have := ih (pl := pl) (by simpa using h) fun k hk' => by
        have := hk (k + 1) (by simpa using hk')
        simpa using this
      simp only [List.getD_cons_zero] at h0
      unfold jlen at this ⊢
      simp only [List.sum_cons, List.map_cons]
      omega
theorem zeros_sum : ∀ parts : List (List Pr), (parts.map fun _ => 0).sum = 0
  | [] => rfl
  | v :: r => by rw [List.map_cons, List.sum_cons, zeros_sum r]
theorem jseq_end {parts : List (List Pr)} (h : fitsJ parts) : ∃ n, n ≤ jlen parts ∧ drop1 parts (jseq parts n).pl (jseq parts n).lo = none ∧ ∀ i, i < n → drop1 parts (jseq parts i).pl (jseq parts i).lo ≠ none := by
  have go : ∀ n, (∀ i, i < n → drop1 parts (jseq parts i).pl (jseq parts i).lo ≠ none) → (jseq parts n).pl.sum = n := by
    intro n
    induction n with
    | zero =>
      intro _
      show (parts.map fun _ => 0).sum = 0
      exact zeros_sum parts
    | succ n ih =>
      intro hall
      have h1 := ih fun i hi => hall i (by omega)
      cases hd : drop1 parts (jseq parts n).pl (jseq parts n).lo with
      | none => exact absurd hd (hall n (by omega))
      | some d =>
        obtain ⟨m, hm, hl, rfl⟩ := drop1_some hd
        show ((jseq parts n).next parts).pl.sum = n + 1
        rw [next_some hd]
        show ((jseq parts n).pl.set (m : Int).toNat ((jseq parts n).pl.getD (m : Int).toNat 0 + 1)).sum = n + 1
        rw [Int.toNat_natCast, sum_set (by rw [(jseq_inv h n).pl]; exact hm), h1]
  have : ∃ n, n ≤ jlen parts ∧ drop1 parts (jseq parts n).pl (jseq parts n).lo = none := by
    refine Classical.byContradiction fun hno => ?_
    have hall : ∀ i, i < jlen parts + 1 → drop1 parts (jseq parts i).pl (jseq parts i).lo ≠ none := fun i hi e => hno ⟨i, by omega, e⟩
    have h1 := go _ hall
    have I := jseq_inv h (jlen parts + 1)
    have h2 := sum_le_of I.pl I.at_
    omega
  have least : ∀ n, (∃ m, m ≤ n ∧ drop1 parts (jseq parts m).pl (jseq parts m).lo = none) → ∃ m, m ≤ n ∧ drop1 parts (jseq parts m).pl (jseq parts m).lo = none ∧ ∀ i, i < m → drop1 parts (jseq parts i).pl (jseq parts i).lo ≠ none := by
    intro n
    induction n with
    | zero =>
      intro ⟨m, hm, e⟩
      exact ⟨m, hm, e, fun i hi => by omega⟩
    | succ n ih =>
      intro ⟨m, hm, e⟩
      by_cases hex : ∃ m, m ≤ n ∧ drop1 parts (jseq parts m).pl (jseq parts m).lo = none
      · obtain ⟨k, h1, h2, h3⟩ := ih hex
        exact ⟨k, by omega, h2, h3⟩
      · exact ⟨m, hm, e, fun i hi e2 => hex ⟨i, by omega, e2⟩⟩
  exact least _ this
theorem jseq_stop {parts : List (List Pr)} {n : Nat} (h : drop1 parts (jseq parts n).pl (jseq parts n).lo = none) : ∀ m, jseq parts (n + m) = jseq parts n
  | 0 => rfl
  | m + 1 => by
    have ih := jseq_stop h m
    show (jseq parts (n + m)).next parts = _
    rw [ih, next_none h]
theorem joint_eq {parts : List (List Pr)} {n : Nat} (hn : n ≤ jlen parts) (h : drop1 parts (jseq parts n).pl (jseq parts n).lo = none) : joint parts = desc (jseq parts n).ps := by
  unfold joint
  obtain ⟨m, e⟩ : ∃ m, jlen parts = n + m := ⟨jlen parts - n, by omega⟩
  rw [e, jseq_stop h m]
theorem joint_ne {parts : List (List Pr)} (h : fitsJ parts) : joint parts ≠ [] := desc_ne (jseq_inv h _).ne
theorem joint_len {parts : List (List Pr)} (h : fitsJ parts) : (joint parts).length ≤ jlen parts + 1 := Nat.le_trans (desc_len _) (jseq_inv h _).ps
theorem joint_pos {parts : List (List Pr)} (h : fitsJ parts) : 0 ≤ (lastP (joint parts)).1 := (jseq_inv h _).caps _ (desc_mem (lastP_mem (joint_ne h)))
theorem peak_pos {fs : List Prof} (h : ∀ f ∈ fs, f.Ne) : 0 ≤ (parP fs).peak := by
  have h1 : 0 ≤ (lastP (parS fs)).1 := joint_pos fun v hv => by
    obtain ⟨f, hf, rfl⟩ := List.mem_map.mp hv
    exact (h f hf).s
  have h2 := (le_mxL ((lastP (parE fs)).1 :: fs.map fun f => f.peak + lowest fs - (lastP f.s).2) (lastP (parS fs)).1).1
  show 0 ≤ mxL _ _
  omega
/-! ### sizes of the profiles -/
theorem par_ne {fs : List Prof} (h : ∀ f ∈ fs, f.Ne) : (parP fs).Ne := by
  refine ⟨joint_ne fun v hv => ?_, mv_ne (joint_ne fun v hv => ?_)⟩
  · obtain ⟨f, hf, rfl⟩ := List.mem_map.mp hv
    exact (h f hf).s
  · obtain ⟨f, hf, rfl⟩ := List.mem_map.mp hv
    exact mv_ne (h f hf).e
theorem par_sz {fs : List Prof} (h : ∀ f ∈ fs, f.Ne) : (parP fs).sz ≤ 2 + szS fs := by
  have h1 := joint_len (parts := fs.map Prof.s) fun v hv => by
    obtain ⟨f, hf, rfl⟩ := List.mem_map.mp hv
    exact (h f hf).s
  have h2 := joint_len (parts := fs.map fun f => mv f.e (0 - f.net)) fun v hv => by
    obtain ⟨f, hf, rfl⟩ := List.mem_map.mp hv
    exact mv_ne (h f hf).e
  have h3 : jlen (fs.map Prof.s) + jlen (fs.map fun f => mv f.e (0 - f.net)) ≤ szS fs := by
    clear h1 h2 h
    induction fs with
    | nil => simp [jlen, szS]
    | cons f fs ih =>
      have e1 : jlen ((f :: fs).map Prof.s) = f.s.length + jlen (fs.map Prof.s) := rfl
      have e2 : jlen ((f :: fs).map fun f => mv f.e (0 - f.net)) = (mv f.e (0 - f.net)).length + jlen (fs.map fun f => mv f.e (0 - f.net)) := rfl
      rw [e1, e2, mv_len, szS_cons]
      unfold Prof.sz
      omega
  unfold Prof.sz
  show (joint (fs.map Prof.s)).length + (mv (joint (fs.map fun f => mv f.e (0 - f.net))) (netS fs)).length ≤ _
  rw [mv_len]
  omega
theorem rounds_ne {n net pk : Int} {s : List Pr} (h : s ≠ []) : roundsS n net pk s ≠ [] := by
  unfold roundsS
  split
  · exact h
  · exact desc_ne (by simp)
theorem rounds_len (n net pk : Int) (s : List Pr) : (roundsS n net pk s).length ≤ s.length + 1 := by
  unfold roundsS
  split
  · omega
  · have h1 := desc_len (early s pk ++ [(pk, (n - 1) * net + (lastP s).2)])
    have h2 := early_len s pk
    simp only [List.length_append, List.length_cons, List.length_nil] at h1
    omega
theorem rep_ne {n : Int} {f : Prof} (h : f.Ne) : (repP n f).Ne := by
  unfold repP
  split
  · exact empty_ne
  · exact ⟨rounds_ne h.s, mv_ne (rounds_ne (mv_ne h.e))⟩
theorem rep_sz {n : Int} {f : Prof} (h : f.Ne) : (repP n f).sz ≤ f.sz + 2 := by
  unfold repP
  split
  · show 2 ≤ _
    omega
  · have h1 := rounds_len n f.net f.peak f.s
    have h2 := rounds_len n (0 - f.net) (f.peak - f.net) (mv f.e (0 - f.net))
    rw [mv_len] at h2
    unfold Prof.sz
    simp only [mv_len]
    omega
theorem cop_fold (n : Int) : ∀ (s : List Pr) (st : List Pr × Int × Int), (s.foldl (copStep n) st).1.length = st.1.length + s.length
  | [], st => by simp
  | p :: s, st => by
    rw [List.foldl_cons, cop_fold n s]
    simp only [copStep, List.length_append, List.length_cons, List.length_nil]
    omega
theorem copS_len (n : Int) (s : List Pr) : (copS n s).length ≤ s.length := by
  have h1 := desc_len (s.foldl (copStep n) ([], 0, 0)).1
  have h2 := cop_fold n s ([], 0, 0)
  simp only [List.length_nil, Nat.zero_add] at h2
  unfold copS
  omega
theorem copS_ne {n : Int} {s : List Pr} (h : s ≠ []) : copS n s ≠ [] := by
  refine desc_ne fun e => ?_
  have h2 := cop_fold n s ([], 0, 0)
  rw [e] at h2
  simp only [List.length_nil, Nat.zero_add] at h2
  exact h (List.eq_nil_of_length_eq_zero h2.symm)
theorem cop_ne {n : Int} {f : Prof} (h : f.Ne) : (copP n f).Ne := by
  unfold copP
  split
  · exact empty_ne
  · exact ⟨copS_ne h.s, mv_ne (copS_ne (mv_ne h.e))⟩
theorem cop_sz {n : Int} {f : Prof} (h : f.Ne) : (copP n f).sz ≤ f.sz + 2 := by
  unfold copP
  split
  · show 2 ≤ _
    omega
  · have h1 := copS_len n f.s
    have h2 := copS_len n (mv f.e (0 - f.net))
    rw [mv_len] at h2
    unfold Prof.sz copE
    simp only [mv_len]
    omega
mutual
theorem prof_ne : ∀ j : Job, j.prof.Ne
  | .step v => by
    rw [Job.prof]
    unfold stepP
    split
    · exact ⟨by simp, by simp⟩
    · exact ⟨by simp, by simp⟩
  | .grp p js => by
    have h := profs_ne js
    rw [Job.prof]
    split
    · exact par_ne h
    · exact fold_ne _ _ empty_ne
  | .mul c n j => by
    have h := prof_ne j
    rw [Job.prof]
    split
    · exact cop_ne h
    · exact rep_ne h
theorem profs_ne : ∀ js : List Job, ∀ f ∈ Job.profs js, f.Ne
  | [], f, h => by simp [Job.profs] at h
  | j :: js, f, h => by
    rw [Job.profs] at h
    rcases List.mem_cons.mp h with rfl | h
    · exact prof_ne j
    · exact profs_ne js f h
end
mutual
theorem prof_sz : ∀ j : Job, j.prof.sz + 2 ≤ 4 * j.nodes
  | .step v => by
    rw [Job.prof, Job.nodes]
    unfold stepP
    split
    · exact Nat.le_refl _
    · exact Nat.le_refl _
  | .grp p js => by
    have h := profs_sz js
    rw [Job.prof, Job.nodes]
    split
    · have := par_sz (profs_ne js)
      omega
    · have := fold_sz (Job.profs js) .empty
      have e : Prof.empty.sz = 2 := rfl
      unfold seqP
      omega
  | .mul c n j => by
    have h := prof_sz j
    rw [Job.prof, Job.nodes]
    split
    · have := cop_sz (n := n) (prof_ne j)
      omega
    · have := rep_sz (n := n) (prof_ne j)
      omega
theorem profs_sz : ∀ js : List Job, szS (Job.profs js) ≤ 4 * Job.nodesL js
  | [] => Nat.le_refl _
  | j :: js => by
    have h1 := prof_sz j
    have h2 := profs_sz js
    rw [Job.profs, szS_cons, Job.nodesL]
    omega
end
end RP
end
section
set_option maxHeartbeats 2000000
namespace RP
open PySem
def Ab (B : Nat) (i : Int) : Prop := -(B : Int) ≤ i ∧ i ≤ (B : Int)
theorem Ab.mono {B C : Nat} {i : Int} (h : Ab B i) (l : B ≤ C) : Ab C i := by unfold Ab at *; omega
theorem Ab.add {B C : Nat} {i j : Int} (h : Ab B i) (k : Ab C j) : Ab (B + C) (i + j) := by unfold Ab at *; omega
theorem Ab.sub {B C : Nat} {i j : Int} (h : Ab B i) (k : Ab C j) : Ab (B + C) (i - j) := by unfold Ab at *; omega
theorem Ab.zero {B : Nat} : Ab B 0 := by unfold Ab; omega
theorem Ab.imax {B : Nat} {i j : Int} (h : Ab B i) (k : Ab B j) : Ab B (imax i j) := by
  have := imax_ge i j
  rcases this.2.2 with e | e
  · rw [e]; exact h
  · rw [e]; exact k
theorem Ab.mul {B : Nat} {n : Nat} {i : Int} (h : Ab B i) : Ab (n * B) ((n : Int) * i) := by
  unfold Ab at *
  have h1 : (n : Int) * i ≤ (n : Int) * (B : Int) := Int.mul_le_mul_of_nonneg_left h.2 (by omega)
  have h2 : (n : Int) * (-(B : Int)) ≤ (n : Int) * i := Int.mul_le_mul_of_nonneg_left h.1 (by omega)
  rw [Int.mul_neg] at h2
  have e : ((n * B : Nat) : Int) = (n : Int) * (B : Int) := Int.natCast_mul _ _
  rw [e]
  exact ⟨h2, h1⟩
theorem Ab.mulP {B : Nat} {n : Nat} (hn : n ≠ 0) {i : Int} (h : Ab B i) : Ab ((n - 1) * B) (((n : Int) - 1) * i) := by
  have e : (n : Int) - 1 = ((n - 1 : Nat) : Int) := by omega
  rw [e]
  exact h.mul
def AbL (B : Nat) (ps : List Pr) : Prop := ∀ p ∈ ps, Ab B p.1 ∧ Ab B p.2
theorem AbL.mono {B C : Nat} {ps : List Pr} (h : AbL B ps) (l : B ≤ C) : AbL C ps := fun p hp => ⟨(h p hp).1.mono l, (h p hp).2.mono l⟩
theorem AbL.last {B : Nat} {ps : List Pr} (h : AbL B ps) : Ab B (lastP ps).1 ∧ Ab B (lastP ps).2 := by
  by_cases e : ps = []
  · rw [e]
    exact ⟨Ab.zero, Ab.zero⟩
  · exact h _ (lastP_mem e)
theorem AbL.desc {B : Nat} {ps : List Pr} (h : AbL B ps) : AbL B (desc ps) := fun p hp => h p (desc_mem hp)
theorem AbL.mv {B C : Nat} {ps : List Pr} {a : Int} (h : AbL B ps) (k : Ab C a) : AbL (B + C) (mv ps a) := fun p hp => by
  obtain ⟨q, hq, rfl⟩ := List.mem_map.mp hp
  exact ⟨(h q hq).1.add k, (h q hq).2.add k⟩
theorem AbL.early {B : Nat} {ps : List Pr} {a : Int} (h : AbL B ps) : AbL B (early ps a) := fun p hp => h p (List.mem_filter.mp hp).1
theorem AbL.append {B : Nat} {ps qs : List Pr} (h : AbL B ps) (k : AbL B qs) : AbL B (ps ++ qs) := fun p hp => by
  rcases List.mem_append.mp hp with hp | hp
  · exact h p hp
  · exact k p hp
theorem AbL.one {B : Nat} {a b : Int} (h : Ab B a) (k : Ab B b) : AbL B [(a, b)] := fun q hq => by
  rw [List.mem_singleton.mp hq]
  exact ⟨h, k⟩
structure Prof.In (f : Prof) (B : Nat) : Prop where
  net : Ab B f.net
  peak : Ab B f.peak
  s : AbL B f.s
  e : AbL B f.e
theorem Prof.In.mono {f : Prof} {B C : Nat} (h : f.In B) (l : B ≤ C) : f.In C := ⟨h.net.mono l, h.peak.mono l, h.s.mono l, h.e.mono l⟩
theorem empty_in {B : Nat} : Prof.empty.In B := ⟨Ab.zero, Ab.zero, AbL.one Ab.zero Ab.zero, AbL.one Ab.zero Ab.zero⟩
theorem two_in {f g : Prof} {B C : Nat} (h : f.In B) (k : g.In C) : (two f g).In (B + C) := by
  have l : B ≤ B + C := Nat.le_add_right _ _
  have e : C + B = B + C := Nat.add_comm _ _
  refine ⟨h.net.add k.net, (h.peak.mono l).imax (h.net.add k.peak), AbL.desc ((((h.s.mono l).early).append (AbL.one (h.peak.mono l) (h.s.last.2.mono l))).append fun p hp => ?_), AbL.desc (((AbL.early ?_).append (AbL.one (h.net.add k.peak) (h.net.add k.e.last.2))).append fun p hp => ?_)⟩
  · obtain ⟨q, hq, rfl⟩ := List.mem_map.mp hp
    have m := (k.s.mv h.net) q hq
    rw [e] at m
    exact ⟨(h.peak.mono l).imax m.1, m.2⟩
  · have m := k.e.mv h.net
    rw [e] at m
    exact m
  · obtain ⟨q, hq, rfl⟩ := List.mem_map.mp hp
    exact ⟨(h.net.add k.peak).imax ((h.e q hq).1.mono l), (h.e q hq).2.mono l⟩
/-- bounds by a weight -/
theorem seq_in {α : Type} (f : α → Prof) (b : α → Nat) : ∀ (as : List α) (g : Prof) (B : Nat), g.In B → (∀ a ∈ as, (f a).In (b a)) → ((as.map f).foldl two g).In (B + (as.map b).sum)
  | [], g, B, h, _ => h
  | a :: as, g, B, h, k => by
    rw [List.map_cons, List.foldl_cons, List.map_cons, List.sum_cons, ← Nat.add_assoc]
    exact seq_in f b as _ _ (two_in h (k a List.mem_cons_self)) fun x hx => k x (List.mem_cons_of_mem _ hx)
/-! joint -/
theorem sum_ab {α : Type} (f : α → Int) (b : α → Nat) : ∀ as : List α, (∀ a ∈ as, Ab (b a) (f a)) → Ab (as.map b).sum (as.map f).sum
  | [], _ => Ab.zero
  | a :: as, h => (h a List.mem_cons_self).add (sum_ab f b as fun x hx => h x (List.mem_cons_of_mem _ hx))
def LoOk (bs : List Nat) (lo : List Int) : Prop := lo.length = bs.length ∧ ∀ k, k < bs.length → Ab (bs.getD k 0) (lo.getD k 0)
theorem lo_sum : ∀ {bs : List Nat} {lo : List Int}, LoOk bs lo → Ab bs.sum lo.sum
  | [], lo, h => by
    have := List.eq_nil_of_length_eq_zero h.1
    subst this
    exact Ab.zero
  | b :: bs, [], h => absurd h.1 (by simp)
  | b :: bs, x :: lo, h => by
    have h0 := h.2 0 (by simp)
    have ih := lo_sum (bs := bs) (lo := lo) ⟨by have := h.1; simpa using this, fun k hk => by have := h.2 (k + 1) (by simpa using hk); simpa using this⟩
    simp only [List.getD_cons_zero] at h0
    simp only [List.sum_cons]
    exact h0.add ih
theorem lo_but : ∀ {bs : List Nat} {lo : List Int} {n : Nat} {c : Int}, LoOk bs lo → n < bs.length → Ab (bs.getD n 0) c → Ab bs.sum (c + lo.sum - lo.getD n 0)
  | [], lo, n, c, h, hn, _ => by simp at hn
  | b :: bs, [], n, c, h, _, _ => absurd h.1 (by simp)
  | b :: bs, x :: lo, n, c, h, hn, hc => by
    have h0 := h.2 0 (by simp)
    have h' : LoOk bs lo := ⟨by have := h.1; simpa using this, fun k hk => by have := h.2 (k + 1) (by simpa using hk); simpa using this⟩
    simp only [List.getD_cons_zero] at h0
    cases n with
    | zero =>
      have ih := lo_sum h'
      simp only [List.getD_cons_zero, List.sum_cons] at hc ⊢
      have := hc.add ih
      rw [show c + (x + lo.sum) - x = c + lo.sum by omega]
      exact this
    | succ n =>
      have ih := lo_but (n := n) (c := c) h' (by simpa using hn) (by simpa using hc)
      simp only [List.getD_cons_succ, List.sum_cons]
      have := h0.add ih
      rw [show c + (x + lo.sum) - lo.getD n 0 = x + (c + lo.sum - lo.getD n 0) by omega]
      exact this
theorem lo_set {bs : List Nat} {lo : List Int} {n : Nat} {c : Int} (h : LoOk bs lo) (hc : Ab (bs.getD n 0) c) : LoOk bs (lo.set n c) := by
  refine ⟨by rw [List.length_set]; exact h.1, fun k hk => ?_⟩
  by_cases e : n = k
  · subst e
    rw [getD_set_self (by rw [h.1]; exact hk)]
    exact hc
  · rw [getD_set_ne e]
    exact h.2 k hk
structure JIn (bs : List Nat) (s : JS) : Prop where
  lo : LoOk bs s.lo
  ps : AbL bs.sum s.ps
  cap : Ab bs.sum s.cap
theorem jseq_in {parts : List (List Pr)} {bs : List Nat} (hf : fitsJ parts) (hl : parts.length = bs.length) (hb : ∀ k, k < bs.length → AbL (bs.getD k 0) (parts.getD k [])) : ∀ n, JIn bs (jseq parts n)
  | 0 => by
    have l0 : LoOk bs (low0 parts) := by
      refine ⟨by unfold low0; rw [List.length_map, hl], fun k hk => ?_⟩
      have hk' : k < parts.length := by omega
      have e : (low0 parts).getD k 0 = ((parts.getD k []).getD 0 (0, 0)).2 := by
        unfold low0
        rw [List.getD_eq_getElem?_getD, List.getElem?_map, List.getElem?_eq_getElem hk', List.getD_eq_getElem?_getD (l := parts), List.getElem?_eq_getElem hk']
        rfl
      rw [e]
      have hbk := hb k hk
      cases hv : parts.getD k [] with
      | nil => exact Ab.zero
      | cons p r =>
        rw [hv] at hbk
        exact (hbk p List.mem_cons_self).2
    exact ⟨l0, AbL.one Ab.zero (lo_sum l0), Ab.zero⟩
  | n + 1 => by
    have I := jseq_in hf hl hb n
    have V := jseq_inv hf n
    show JIn bs ((jseq parts n).next parts)
    cases h : drop1 parts (jseq parts n).pl (jseq parts n).lo with
    | none =>
      rw [next_none h]
      exact I
    | some d =>
      obtain ⟨m, hm, hlt, rfl⟩ := drop1_some h
      rw [next_some h]
      simp only [Int.toNat_natCast]
      have hm' : m < bs.length := by omega
      have hbk := hb m hm'
      have ent : ∀ k, k < (parts.getD m []).length → Ab (bs.getD m 0) ((parts.getD m []).getD k (0, 0)).1 ∧ Ab (bs.getD m 0) ((parts.getD m []).getD k (0, 0)).2 := fun k hk => by
        have e : (parts.getD m []).getD k (0, 0) = (parts.getD m [])[k] := by rw [List.getD_eq_getElem?_getD, List.getElem?_eq_getElem hk]; rfl
        rw [e]
        exact hbk _ (List.getElem_mem hk)
      have hc := I.cap.imax (lo_but I.lo hm' (ent _ hlt).1)
      have hlo : LoOk bs ((jseq parts n).lo.set m ((parts.getD m []).getD (((jseq parts n).pl.set m ((jseq parts n).pl.getD m 0 + 1)).getD m 0) (0, 0)).2) := by
        refine lo_set I.lo ?_
        rw [getD_set_self (by rw [V.pl]; exact hm)]
        exact (ent _ hlt).2
      exact ⟨hlo, I.ps.append (AbL.one hc (lo_sum hlo)), hc⟩
theorem joint_in {α : Type} (f : α → List Pr) (b : α → Nat) (as : List α) (hf : ∀ a ∈ as, f a ≠ []) (h : ∀ a ∈ as, AbL (b a) (f a)) : AbL (as.map b).sum (joint (as.map f)) := by
  refine AbL.desc (jseq_in (bs := as.map b) (fun v hv => ?_) (by rw [List.length_map, List.length_map]) (fun k hk => ?_) _).ps
  · obtain ⟨a, ha, rfl⟩ := List.mem_map.mp hv
    exact hf a ha
  · rw [List.length_map] at hk
    rw [List.getD_eq_getElem?_getD, List.getElem?_map, List.getElem?_eq_getElem hk, List.getD_eq_getElem?_getD (l := as.map f), List.getElem?_map, List.getElem?_eq_getElem hk]
    exact h _ (List.getElem_mem hk)
theorem sum2 {α : Type} (b : α → Nat) : ∀ as : List α, (as.map fun a => b a + b a).sum = (as.map b).sum + (as.map b).sum
  | [] => rfl
  | a :: as => by
    have := sum2 b as
    simp only [List.map_cons, List.sum_cons] at this ⊢
    omega
theorem mem_sum {α : Type} (b : α → Nat) {a : α} : ∀ {as : List α}, a ∈ as → b a ≤ (as.map b).sum
  | x :: as, h => by
    simp only [List.map_cons, List.sum_cons]
    rcases List.mem_cons.mp h with rfl | h
    · omega
    · have := mem_sum b h
      omega
theorem par_in {α : Type} (f : α → Prof) (b : α → Nat) (as : List α) (hn : ∀ a ∈ as, (f a).Ne) (h : ∀ a ∈ as, (f a).In (b a)) : (parP (as.map f)).In (4 * (as.map b).sum) := by
  generalize hS : (as.map b).sum = S
  have h1 : Ab S (netS (as.map f)) := by
    have := sum_ab (fun a => (f a).net) b as fun a ha => (h a ha).net
    rw [hS] at this
    unfold netS
    rw [List.map_map]
    exact this
  have h2 : AbL S (parS (as.map f)) := by
    have := joint_in (fun a => (f a).s) b as (fun a ha => (hn a ha).s) fun a ha => (h a ha).s
    rw [hS] at this
    unfold parS
    rw [List.map_map]
    exact this
  have h3 : AbL (S + S) (joint ((as.map f).map fun f => mv f.e (0 - f.net))) := by
    have := joint_in (fun a => mv (f a).e (0 - (f a).net)) (fun a => b a + b a) as (fun a ha => mv_ne (hn a ha).e) fun a ha => by
      have k := (h a ha).e.mv (Ab.zero (B := 0) |>.sub (h a ha).net)
      rw [Nat.zero_add] at k
      exact k
    rw [sum2, hS] at this
    rw [List.map_map]
    exact this
  have h4 : AbL (S + S + S) (parE (as.map f)) := h3.mv h1
  have h5 : Ab S (lowest (as.map f)) := by
    have := sum_ab (fun a => (lastP (f a).s).2) b as fun a ha => (h a ha).s.last.2
    rw [hS] at this
    unfold lowest
    rw [List.map_map]
    exact this
  refine ⟨h1.mono (by omega), ?_, h2.mono (by omega), h4.mono (by omega)⟩
  show Ab _ (peakB _ _ _)
  unfold peakB
  obtain ⟨_, _, q⟩ := le_mxL ((lastP (parE (as.map f))).1 :: (as.map f).map fun g => g.peak + lowest (as.map f) - (lastP g.s).2) (lastP (parS (as.map f))).1
  rcases q with q | q
  · rw [q]
    exact h2.last.1.mono (by omega)
  · rcases List.mem_cons.mp q with q | q
    · rw [q]
      exact h4.last.1.mono (by omega)
    · obtain ⟨g, hg, e⟩ := List.mem_map.mp q
      obtain ⟨a, ha, rfl⟩ := List.mem_map.mp hg
      rw [← e]
      have hb := mem_sum b ha
      exact (((h a ha).peak.add h5).sub (h a ha).s.last.2).mono (by omega)
theorem rounds_in {n : Nat} (hn : n ≠ 0) {net pk : Int} {s : List Pr} {B : Nat} (hnet : Ab B net) {C : Nat} (hpk : Ab C pk) (hs : AbL C s) : AbL ((n - 1) * B + C) (roundsS n net pk s) := by
  unfold roundsS
  split
  · exact hs.mono (by omega)
  · exact AbL.desc (((hs.early).mono (by omega)).append (AbL.one (hpk.mono (by omega)) ((hnet.mulP hn).add hs.last.2)))
theorem nsub {n B : Nat} (hn : n ≠ 0) : (n - 1) * B + B = n * B := by
  obtain ⟨m, rfl⟩ : ∃ m, n = m + 1 := ⟨n - 1, by omega⟩
  rw [Nat.add_sub_cancel, Nat.add_mul, Nat.one_mul]
theorem rep_in {n : Nat} {f : Prof} {B : Nat} (h : f.In B) : (repP n f).In (4 * (n * B)) := by
  unfold repP
  split
  · exact empty_in
  · rename_i h0
    have hn : n ≠ 0 := by omega
    have e := nsub (B := B) hn
    have l1 : B ≤ n * B := by omega
    have e1 : (n : Int) * f.net - f.net = ((n : Int) - 1) * f.net := by rw [Int.sub_mul, Int.one_mul]
    have z := (Ab.zero (B := 0)).sub h.net
    rw [Nat.zero_add] at z
    refine ⟨h.net.mul.mono (by omega), ?_, (rounds_in hn h.net h.peak h.s).mono (by omega), ?_⟩
    · have k : Ab ((n - 1) * B) (imax 0 ((n : Int) * f.net - f.net)) := by
        rw [e1]
        exact Ab.zero.imax (h.net.mulP hn)
      exact (h.peak.add k).mono (by omega)
    · have k := (rounds_in hn z (h.peak.sub h.net) (h.e.mv z)).mv (h.net.mul (n := n))
      exact k.mono (by omega)
theorem cop_foldA {n : Nat} (hn : n ≠ 0) {B : Nat} : ∀ (s : List Pr) (st : List Pr × Int × Int), AbL B s → AbL (n * B) st.1 → Ab (n * B) st.2.1 → Ab B st.2.2 → AbL (n * B) (s.foldl (copStep n) st).1
  | [], st, _, h1, _, _ => h1
  | p :: s, st, hs, h1, h2, h3 => by
    have hp := hs p List.mem_cons_self
    have e := nsub (B := B) hn
    have c : Ab (n * B) (imax st.2.1 (p.1 + ((n : Int) - 1) * st.2.2)) := h2.imax ((hp.1.add (h3.mulP hn)).mono (by omega))
    rw [List.foldl_cons]
    exact cop_foldA hn s _ (fun q hq => hs q (List.mem_cons_of_mem _ hq)) (h1.append (AbL.one c hp.2.mul)) c hp.2
theorem copS_in {n : Nat} (hn : n ≠ 0) {B : Nat} {s : List Pr} (h : AbL B s) : AbL (n * B) (copS n s) :=
  AbL.desc (cop_foldA hn s _ h (fun p hp => absurd hp (by simp)) Ab.zero Ab.zero)
theorem imax3_or (a b c : Int) : imax3 a b c = a ∨ imax3 a b c = b ∨ imax3 a b c = c := by
  unfold imax3
  split <;> split <;> simp
theorem cop_in {n : Nat} {f : Prof} {B : Nat} (h : f.In B) : (copP n f).In (4 * (n * B)) := by
  unfold copP
  split
  · exact empty_in
  · rename_i h0
    have hn : n ≠ 0 := by omega
    have e := nsub (B := B) hn
    have l1 : B ≤ n * B := by omega
    have z := (Ab.zero (B := 0)).sub h.net
    rw [Nat.zero_add] at z
    have k1 := copS_in hn h.s
    have k2 : AbL (3 * (n * B)) (copE n f) := by
      have k := (copS_in hn (h.e.mv z)).mv (h.net.mul (n := n))
      refine k.mono ?_
      rw [Nat.mul_add]
      omega
    refine ⟨h.net.mul.mono (by omega), ?_, k1.mono (by omega), k2.mono (by omega)⟩
    rcases imax3_or (f.peak + ((n : Int) - 1) * (lastP f.s).2) (lastP (copS n f.s)).1 (lastP (copE n f)).1 with q | q | q
    · show Ab _ (imax3 _ _ _)
      rw [q]
      exact (h.peak.add (h.s.last.2.mulP hn)).mono (by omega)
    · show Ab _ (imax3 _ _ _)
      rw [q]
      exact k1.last.1.mono (by omega)
    · show Ab _ (imax3 _ _ _)
      rw [q]
      exact k2.last.1.mono (by omega)
def bq (D : Nat) (j : Job) : Nat := 4 ^ D * (j.steps * maxN)
theorem bq_sum (D : Nat) : ∀ js : List Job, (js.map (bq D)).sum = 4 ^ D * (Job.stepsL js * maxN)
  | [] => by simp [Job.stepsL]
  | j :: js => by
    rw [List.map_cons, List.sum_cons, bq_sum D js, Job.stepsL, Nat.add_mul, Nat.mul_add]
    rfl
mutual
theorem prof_in : ∀ (D : Nat) (j : Job), j.Sv → j.depth ≤ D → j.prof.In (bq D j)
  | D, .step v, h, hd => by
    rw [Job.Sv] at h
    have l : maxN ≤ bq D (.step v) := by
      unfold bq
      rw [Job.steps, Nat.one_mul]
      have : 1 ≤ 4 ^ D := Nat.one_le_pow _ _ (by decide)
      calc maxN = 1 * maxN := (Nat.one_mul _).symm
        _ ≤ 4 ^ D * maxN := Nat.mul_le_mul_right _ this
    have a : Ab maxN v := h
    rw [Job.prof]
    unfold stepP
    split
    · exact Prof.In.mono ⟨a, a, AbL.one Ab.zero Ab.zero, AbL.one a Ab.zero⟩ l
    · exact Prof.In.mono ⟨a, Ab.zero, AbL.one Ab.zero a, AbL.one a a⟩ l
  | D, .grp p js, h, hd => by
    rw [Job.Sv] at h
    rw [Job.depth] at hd
    obtain ⟨E, rfl⟩ : ∃ E, D = E + 1 := ⟨D - 1, by omega⟩
    have hp := profs_in E js h (by omega)
    have e : bq (E + 1) (.grp p js) = 4 * (js.map (bq E)).sum := by
      rw [bq_sum]
      unfold bq
      rw [Job.steps, Nat.pow_succ, Nat.mul_comm (4 ^ E) 4, Nat.mul_assoc]
    rw [Job.prof, profs_map, e]
    split
    · exact par_in Job.prof (bq E) js (fun j _ => prof_ne j) hp
    · have := seq_in Job.prof (bq E) js .empty 0 empty_in hp
      exact this.mono (by omega)
  | D, .mul c n j, h, hd => by
    rw [Job.Sv] at h
    rw [Job.depth] at hd
    obtain ⟨E, rfl⟩ : ∃ E, D = E + 1 := ⟨D - 1, by omega⟩
    have hp := prof_in E j h (by omega)
    have e : bq (E + 1) (.mul c n j) = 4 * (n * bq E j) := by
      unfold bq
      rw [Job.steps, Nat.pow_succ, Nat.mul_comm (4 ^ E) 4, Nat.mul_assoc, Nat.mul_assoc n, Nat.mul_left_comm (4 ^ E) n]
    rw [Job.prof, e]
    split
    · exact cop_in hp
    · exact rep_in hp
theorem profs_in : ∀ (D : Nat) (js : List Job), Job.SvL js → Job.depths js ≤ D → ∀ j ∈ js, j.prof.In (bq D j)
  | D, [], _, _, j, hj => by cases hj
  | D, k :: js, h, hd, j, hj => by
    rw [Job.SvL] at h
    rw [Job.depths] at hd
    rcases List.mem_cons.mp hj with z | hj
    · rw [z]
      exact prof_in D k h.1 (by omega)
    · exact profs_in D js h.2 (by omega) j hj
end
end RP
end
section
set_option maxHeartbeats 4000000
namespace RP
open PySem PySem.Spec PyProof.Rows L2
section
variable {X : Cx}
/-- max of three -/
def rMax3 : List V → Hp → VK → Prop := fun xs H Q => ∃ i j k, xs = [.int i, .int j, .int k] ∧ Q (.int (imax3 i j k)) H
theorem cr_max3 (hc : X.calm = true) : CallR X (.builtin "max") rMax3 := by
  intro pins s σ H xs us Q I r h
  obtain ⟨i, j, k, rfl, q⟩ := h
  obtain ⟨u1, u2, u3, rfl, ⟨t1, rfl⟩, ⟨t2, rfl⟩, ⟨t3, rfl⟩⟩ := L2.vals3 r
  refine max_three_ints (I.ok.hd hc) fun h' tk kk => ⟨_, H, I.kept kk, ?_, q⟩
  unfold imax3
  by_cases h1 : j > i
  · rw [if_pos h1, if_pos h1]
    by_cases h2 : k > j
    · rw [if_pos h2, if_pos h2]; exact ⟨_, rfl⟩
    · rw [if_neg h2, if_neg h2]; exact ⟨_, rfl⟩
  · rw [if_neg h1, if_neg h1]
    by_cases h2 : k > i
    · rw [if_pos h2, if_pos h2]; exact ⟨_, rfl⟩
    · rw [if_neg h2, if_neg h2]; exact ⟨_, rfl⟩
end
/-! ### sorted(a list of pairs) -/
theorem dt_pr {K : PySem.W.Frag} {H : Hp} {v : V} {p : Pr} (h : Dt K H v (prD p)) : ∃ t, v = .ref t ∧ TupAt K H t [.int p.1, .int p.2] := by
  obtain ⟨a, xs, rfl, ht, hl⟩ := Dt.isTup h
  have e := hl.ints (ns := [p.1, p.2])
  subst e
  exact ⟨a, rfl, ht⟩
theorem pr_dt {K : PySem.W.Frag} {H : Hp} {t : Addr} {p : Pr} (h : TupAt K H t [.int p.1, .int p.2]) : Dt K H (.ref t) (prD p) := .tup h (.cons (.int _) (.cons (.int _) .nil))
def rSortedPD (K : PySem.W.Frag) : List V → Hp → VK → Prop := fun vs H Q => ∃ (a : Addr) (xs : List V) (ps : List Pr), vs = [V.ref a] ∧ SqL K H a xs ∧ DtL K H xs (ps.map prD) ∧
  ∀ ys p, DtL K H ys ((srt ps).map prD) → H p = none → Q (.ref p) (upd H p (.lst ys))
noncomputable def prOf (K : PySem.W.Frag) (H : Hp) (v : V) : Pr := by
  classical
  exact if h : ∃ p, Dt K H v (prD p) then Classical.choose h else (0, 0)
theorem prOf_spec {K : PySem.W.Frag} {H : Hp} {v : V} {p : Pr} (h : Dt K H v (prD p)) : Dt K H v (prD (prOf K H v)) := by
  unfold prOf
  have h' : ∃ p, Dt K H v (prD p) := ⟨p, h⟩
  rw [dif_pos h']
  exact Classical.choose_spec h'
section
variable {X : Cx} {pins : List (Addr × Obj)} {σ : L2.St} {H : Hp} {s : Shared}
theorem pr_one (I : L2.Inv X pins σ H s) {v : V} {p q : Pr} (h1 : Dt X.K H v (prD p)) (h2 : Dt X.K H v (prD q)) : p = q := by
  obtain ⟨t, rfl, a⟩ := dt_pr h1
  obtain ⟨t', e, b⟩ := dt_pr h2
  cases e
  have e := I.tuple_inj a.sq b.sq
  obtain ⟨p1, p2⟩ := p
  obtain ⟨q1, q2⟩ := q
  simp only [List.cons.injEq, V.int.injEq, and_true] at e
  rw [e.1, e.2]
theorem prs_map (I : L2.Inv X pins σ H s) : ∀ {xs : List V} {ps : List Pr}, DtL X.K H xs (ps.map prD) → xs.map (prOf X.K H) = ps
  | _, [], .nil => rfl
  | _, p :: ps, .cons h t => by
    rw [List.map_cons, prs_map I t, pr_one I (prOf_spec h) h]
theorem map_prs {K : PySem.W.Frag} : ∀ {ys : List V}, (∀ y ∈ ys, Dt K H y (prD (prOf K H y))) → DtL K H ys ((ys.map (prOf K H)).map prD)
  | [], _ => .nil
  | y :: ys, h => .cons (h y List.mem_cons_self) (map_prs fun z hz => h z (List.mem_cons_of_mem _ hz))
theorem dtl_mem {K : PySem.W.Frag} : ∀ {xs : List V} {ps : List Pr}, DtL K H xs (ps.map prD) → ∀ x ∈ xs, ∃ p, Dt K H x (prD p)
  | _, [], .nil, x, h => by cases h
  | _, p :: ps, .cons h t, x, hx => by
    rcases List.mem_cons.mp hx with rfl | hx
    · exact ⟨p, h⟩
    · exact dtl_mem t x hx
theorem cr_sortedPD : CallR X (.builtin "sorted") (rSortedPD X.K) := by
  intro pins s σ H vs us Q I r h
  obtain ⟨a, xs, ps, rfl, hs, hx, q⟩ := h
  obtain ⟨its, rv, hl, hz⟩ := I.list hs
  obtain ⟨u, rfl, ru⟩ := vals1 r
  obtain rfl : u = Value.ref a := ru
  let k : V → Int × Int := prOf X.K H
  have hk : ∀ x ∈ xs, Dt X.K H x (prD (k x)) := fun x m => by
    obtain ⟨p, hp⟩ := dtl_mem hx x m
    exact prOf_spec hp
  obtain ⟨e1, e2⟩ := refs_back rv fun x m => by
    obtain ⟨t, e, _⟩ := dt_pr (hk x m)
    exact ⟨t, e⟩
  refine SrtO.sorted_pairsO (k := fun u => k (backV u)) hl.isList (by rw [← rv.length]; exact hz) (fun v hv => ?_) fun h' d out h1 h2 kp hd hn => ?_
  · obtain ⟨t, rfl⟩ := e2 v hv
    have hm : V.ref t ∈ xs := by
      rw [e1]
      exact List.mem_map.mpr ⟨_, hv, rfl⟩
    obtain ⟨t', e, ht⟩ := dt_pr (hk _ hm)
    cases e
    obtain ⟨its2, r2, ⟨o, ho, hc, n, hd⟩, _⟩ := I.tuple ht.sq
    obtain ⟨u1, u2, rfl, ri, rj⟩ := vals2 r2
    obtain ⟨t1, rfl⟩ := ri
    obtain ⟨t2, rfl⟩ := rj
    exact ⟨t, o, t1, t2, n, rfl, ho, hc, hd⟩
  · have h3 : ∀ u ∈ out, ∃ a, u = Value.ref a := fun u hu => e2 u (h2.perm.mem_iff.mp hu)
    obtain ⟨n, hn⟩ := hn
    have hb : SrtO.Stb (ltP k) (out.map backV) xs := by
      rw [e1]
      exact SrtO.Stb.map (ltP_swo k) backV h2
    have hso : SrtO.Srtd (ltP k) (out.map backV) := SrtO.srtd_map h1
    have hm : (out.map backV).map k = srt ps := by
      refine sorted_one ?_ (srt_sorted ps) ?_
      · exact List.pairwise_map.mpr hso
      · have h5 := hb.perm.map k
        rw [prs_map I hx] at h5
        exact h5.trans (srt_perm ps).symm
    have hdl : DtL X.K H (out.map backV) ((srt ps).map prD) := by
      rw [← hm]
      exact map_prs fun y hy => hk y (hb.perm.mem_iff.mp hy)
    refine ⟨.ref d, upd H d (.lst (out.map backV)), I.laid (t' := s.toks) kp hd ⟨?_, out, n, vals_back h3, hn⟩, rfl, q _ d hdl (I.hok.fresh hd)⟩
    rw [hb.len]
    exact hz
/-! ### min(a list of pairs) -/
def rMinP (K : PySem.W.Frag) : List V → Hp → VK → Prop := fun vs H Q => ∃ (a : Addr) (xs : List V) (p : Pr) (ps : List Pr), vs = [V.ref a] ∧ SqL K H a xs ∧ DtL K H xs ((p :: ps).map prD) ∧ ∀ v, Dt K H v (prD (minP p ps)) → Q v H
theorem lt_pr (p q : Pr) : PySem.W.dataLt (prD p) (prD q) = lx p q := by
  obtain ⟨a, b⟩ := p
  obtain ⟨c, d⟩ := q
  unfold lx SrtO.lexB prD
  refine (PySem.W.dataLt_tuple _ _).trans ?_
  have al : ∀ x y : Int, PySem.W.alike (.int x) (.int y) = true := fun x y => by simp [PySem.W.alike]
  by_cases h0 : a = c
  · rw [if_pos h0, PySem.W.dataLt_all_yes (al a c) (by simp [PyData.eqv, h0])]
    by_cases h1 : b = d
    · rw [PySem.W.dataLt_all_yes (al b d) (by simp [PyData.eqv, h1]), PyProof.Rows.lex_irrefl (O := PyProof.Rows.itemOrd), h1]
      simp
    · rw [PySem.W.dataLt_all_no (al b d) (by simp [PyData.eqv, h1]), PySem.W.dataLt_int]
  · rw [if_neg h0, PySem.W.dataLt_all_no (al a c) (by simp [PyData.eqv, h0]), PySem.W.dataLt_int]
theorem minD_pr : ∀ (ps : List Pr) (p : Pr), PySem.W.minD (prD p) (ps.map prD) = prD (minP p ps)
  | [], p => rfl
  | q :: ps, p => by
    have ih := minD_pr ps (if lx q p then q else p)
    unfold PySem.W.minD minP at ih ⊢
    rw [List.map_cons, List.foldl_cons, List.foldl_cons, lt_pr, ← ih]
    split <;> rfl
theorem alike_pr (p q : Pr) : PySem.W.alike (prD p) (prD q) = true := by simp [prD, PySem.W.alike, PySem.W.alikeAll]
theorem plain_pr (p : Pr) : (prD p).plain = true := by simp [prD, PyData.plain, PyData.plainAll]
theorem dep_prs : ∀ ps : List Pr, PyData.depthAll (ps.map prD) ≤ 2
  | [] => by simp [PyData.depthAll]
  | p :: ps => by
    have := dep_prs ps
    simp only [List.map_cons, PyData.depthAll, prD, PyData.depth] at this ⊢
    omega
end
section
variable {X : Cx}
theorem cr_minP (hc : X.calm = true) (hu : X.A.units + 65 < cLine) : CallR X (.builtin "min") (rMinP X.K) := by
  intro pins s σ H vs us Q I r h
  obtain ⟨a, xs, p, ps, rfl, hs, hx, q⟩ := h
  obtain ⟨its, rv, hl, hz⟩ := I.list hs
  rw [Vals.ref1 r]
  obtain ⟨as, hr⟩ := Dp.readsAll I _ _ _ hx.dp rv
  have hd := dep_prs (p :: ps)
  have hal : PySem.W.AlikeAll ((p :: ps).map prD) := by
    refine ⟨fun x hx y hy => ?_, fun x hx => ?_⟩
    · obtain ⟨a, _, rfl⟩ := List.mem_map.mp hx
      obtain ⟨b, _, rfl⟩ := List.mem_map.mp hy
      exact alike_pr a b
    · obtain ⟨a, _, rfl⟩ := List.mem_map.mp hx
      intro z
      cases z
  refine PySem.W.min_list_data (I.ok.hd hc) hl.isList (x := prD p) (xs := ps.map prD) (by simpa using hr) hal ?_ fun i v h' tk bs hv hrd kk => ?_
  · rw [List.map_cons] at hd
    omega
  · have hv' : its[i]? = some v := by simpa using hv
    obtain ⟨w, hw, rw_⟩ : ∃ w, xs[i]? = some w ∧ RelV w v := by
      have hlt : i < xs.length := by
        rw [rv.length]
        exact (List.getElem?_eq_some_iff.mp hv').1
      obtain ⟨u, hu1, hu2⟩ := rv.get (List.getElem?_eq_getElem hlt)
      rw [hv'] at hu1
      cases hu1
      exact ⟨_, List.getElem?_eq_getElem hlt, hu2⟩
    obtain ⟨d, hd1, hd2⟩ := hx.at hw
    rw [List.getElem?_map] at hd1
    obtain ⟨p', hp', rfl⟩ := Option.map_eq_some_iff.mp hd1
    obtain ⟨bs', r'⟩ := Dp.reads I _ _ _ hd2.dp rw_
    have e : prD p' = prD (minP p ps) := by
      rw [minD_pr] at hrd
      exact PySem.SeqAt.plain_unique _ _ _ _ _ (plain_pr _) (PySem.W.reads_keeps kk r') hrd
    rw [e] at hd2
    exact ⟨w, H, I.kept (t' := tk) kk, rw_, q w hd2⟩
end
end RP
end
section
set_option maxHeartbeats 4000000
namespace RP
open PySem PySem.Spec PyProof.Rows L2
section
variable {P : Program} {w : World} {K : PySem.W.Frag} {mg : Str → Option Value} {base : Heap} {Γ : List Sl} {te ta : TE} {E : XK}
/-! ### rules for lists of pairs -/
theorem ix_tupK {X : Cx} (h : X.K = K := by rfl) : IxR X (rIxT K) := h ▸ ix_tup
theorem ix_listK {X : Cx} (h : X.K = K := by rfl) : IxR X (rIxL K) := h ▸ ix_list
theorem sem_neg {i : Int} (h : Sem K Γ te (.d (.int i))) : Sem K Γ (tUn (rU fun i => .int (-i)) te) (.d (.int (-i))) := fun H0 σ H Q rp q =>
  h H0 σ H _ rp fun v H1 e1 a1 => ⟨i, Dt.isInt a1, q _ H1 e1 (.int _)⟩
theorem cvd_sortedP {ps qs : List Pr} (e : srt ps = qs) : CvD K (rSortedPD K) [.s (ps.map prD)] (.l (qs.map prD)) := fun H vs Q a q => by
  match vs, a with
  | [v], ⟨h1, _⟩ =>
    obtain ⟨p, xs, rfl, ht, hl⟩ := h1
    refine ⟨p, xs, ps, rfl, SqL.of ht, hl, fun ys c hy hc => ?_⟩
    rw [e] at hy
    exact q _ _ (same_new hc) ⟨c, ys, rfl, hc, upd_same, DtL.keep (TK.of (same_new hc)) hy⟩
theorem cvd_max2 {i j : Int} : CvD K (fun xs H Q => ∃ i j, xs = [.int i, .int j] ∧ Q (.int (if j > i then j else i)) H) [.d (.int i), .d (.int j)] (.d (.int (imax i j))) := fun H vs Q a q => by
  match vs, a with
  | [v, u], ⟨h1, h2, _⟩ =>
    have e1 := Dt.isInt h1
    have e2 := Dt.isInt h2
    subst e1 e2
    exact ⟨i, j, rfl, q _ H (Same.refl H) (.int _)⟩
theorem cvd_max3 {i j k : Int} : CvD K rMax3 [.d (.int i), .d (.int j), .d (.int k)] (.d (.int (imax3 i j k))) := fun H vs Q a q => by
  match vs, a with
  | [v, u, y], ⟨h1, h2, h3, _⟩ =>
    have e1 := Dt.isInt h1
    have e2 := Dt.isInt h2
    have e3 := Dt.isInt h3
    subst e1 e2 e3
    exact ⟨i, j, k, rfl, q _ H (Same.refl H) (.int _)⟩
theorem cvd_maxL {x : Int} {xs : List Int} {ds : List PyData} (e : ds = (x :: xs).map PyData.int) : CvD K (rMax K) [.l ds] (.d (.int (mxL x xs))) := fun H vs Q a q => by
  subst e
  match vs, a with
  | [v], ⟨h1, _⟩ =>
    obtain ⟨p, ys, rfl, ht, hl⟩ := h1
    have e := hl.ints
    subst e
    refine ⟨p, x :: xs, rfl, SqL.of ht, by simp, fun m hm hle => ?_⟩
    obtain ⟨l1, l2, l3⟩ := le_mxL xs x
    have e : m = mxL x xs := by
      have h1 : m ≤ mxL x xs := by
        rcases List.mem_cons.mp hm with rfl | hm
        · exact l1
        · exact l2 m hm
      have h2 : mxL x xs ≤ m := by
        rcases l3 with l3 | l3
        · rw [l3]
          exact hle x List.mem_cons_self
        · exact hle _ (List.mem_cons_of_mem _ l3)
      omega
    rw [e]
    exact q _ H (Same.refl H) (.int _)
theorem cvd_minP {p : Pr} {ps : List Pr} : CvD K (rMinP K) [.s ((p :: ps).map prD)] (.d (prD (minP p ps))) := fun H vs Q a q => by
  match vs, a with
  | [v], ⟨h1, _⟩ =>
    obtain ⟨a, xs, rfl, ht, hl⟩ := h1
    exact ⟨a, xs, p, ps, rfl, SqL.of ht, hl, fun v hv => q v H (Same.refl H) hv⟩
theorem cvd_sumS {ns : List Int} : CvD K (rSum K) [.s (ns.map PyData.int)] (.d (.int ns.sum)) := fun H vs Q a q => by
  match vs, a with
  | [v], ⟨h1, _⟩ =>
    obtain ⟨p, xs, rfl, ht, hl⟩ := h1
    have e := hl.ints
    subst e
    exact ⟨p, ns, rfl, SqL.of ht, q _ H (Same.refl H) (.int _)⟩
theorem atI_last {ps : List Pr} (h : ps ≠ []) : atI (ps.map prD) (-1) = some (prD (lastP ps)) := by
  have hl := List.length_pos_iff.mpr h
  unfold atI ixN
  rw [if_neg (by omega), if_pos (by rw [List.length_map]; omega)]
  show (ps.map prD)[_]? = _
  have e : ((-1 : Int) + ((ps.map prD).length : Int)).toNat = ps.length - 1 := by
    rw [List.length_map]
    omega
  unfold lastP
  rw [List.getLast?_eq_getElem?, e, List.getElem?_map, List.getElem?_eq_getElem (by omega)]
  rfl
theorem sem_last {ps : List Pr} (h : Sem K Γ te (.d (prsD ps))) (hn : ps ≠ []) : Sem K Γ (tOp (rIxT K) te (tUn (rU fun i => .int (-i)) (tC (.int 1)))) (.d (prD (lastP ps))) :=
  sem_op (r2 := .d (.int (-1))) h (sem_neg sem_int) (rvd_ixT (ds := ps.map prD) (atI_last hn))
theorem sem_last2 {ps : List Pr} (h : Sem K Γ te (.d (prsD ps))) (hn : ps ≠ []) : Sem K Γ (tOp (rIxT K) (tOp (rIxT K) te (tUn (rU fun i => .int (-i)) (tC (.int 1)))) (tC (.int 1))) (.d (.int (lastP ps).2)) := sem_op (sem_last h hn) sem_int (rvd_ixT rfl)
theorem sem_last1 {ps : List Pr} (h : Sem K Γ te (.d (prsD ps))) (hn : ps ≠ []) : Sem K Γ (tOp (rIxT K) (tOp (rIxT K) te (tUn (rU fun i => .int (-i)) (tC (.int 1)))) (tC (.int 0))) (.d (.int (lastP ps).1)) := sem_op (sem_last h hn) sem_int (rvd_ixT rfl)
theorem prs_lay : ∀ ps : List Pr, PyData.canLayAll0 (ps.map prD) = true
  | [] => by simp [PyData.canLayAll0]
  | p :: ps => by
    have := prs_lay ps
    simp only [List.map_cons, PyData.canLayAll0, this, prD, PyData.canLay0, Bool.and_self]
theorem sh_prs (ps : List Pr) : SeqAt.shaped (.list (ps.map prD)) = true := by
  have h1 := prs_lay ps
  have h2 := dep_prs ps
  unfold SeqAt.shaped
  simp only [PyData.canLay0, PyData.depth, h1, Bool.true_and]
  exact decide_eq_true (by omega)
theorem rvd_eqLn {ds : List PyData} (h : SeqAt.shaped (.list ds) = true) : RvD K (rEqD K) (.s ds) (.l []) (.d (.bool ds.isEmpty)) := by
  have := rvd_eqL (K := K) (ds := ds) (es := []) h sh_lnil
  rw [eqv_lnil] at this
  exact this
theorem rvd_neLn {ds : List PyData} (h : SeqAt.shaped (.list ds) = true) : RvD K (rNeD K) (.s ds) (.l []) (.d (.bool (!ds.isEmpty))) := by
  have := rvd_neL (K := K) (ds := ds) (es := []) h sh_lnil
  rw [eqv_lnil] at this
  exact this
theorem fold_take {α β : Type} (f : β → α → β) (b : β) {l : List α} {i : Nat} {x : α} (h : l[i]? = some x) : (l.take (i + 1)).foldl f b = f ((l.take i).foldl f b) x := by
  rw [List.take_add_one, h, List.foldl_append]
  rfl
theorem rvd_ltD {i j : Int} {b : Bool} (h : decide (i < j) = b) : RvD K (rI0 fun i j => .bl (decide (i < j))) (.d (.int i)) (.d (.int j)) (.d (.bool b)) := rvd_lt' h
/-! ### descending, moved -/
def pr_descending : List Rk → Rk → Prop := fun rs r => ∃ ps : List Pr, rs = [.s (ps.map prD)] ∧ r = .d (prsD (desc ps)) ∧ ps.length ≤ 50000
theorem w_descending (T : Tx K mg) : Df P w K mg base CX0 1 "descending" p_descending (spF K pr_descending) := by
  refine df_sem (N := n_descending) (k := 0) T.f_descending (fun _ _ _ _ _ _ us hl => match us, hl with | [_], _ => rfl) sc_descending (fun rs r h => by obtain ⟨ps, rfl, _⟩ := h; rfl) ?_
  intro rs r h f cdv A outer s H E hr
  refine ⟨_, (pss_cons (ps_set (i := 1) sc_descending.nd rfl (Or.inl rfl) (pe_lst pa_nil))
    (pss_cons (ps_for PassesOwn.never rfl (pi_list (pe_callB cr_sortedPD rfl T.b_sorted (by decide +kernel) (pa_cons (pv 0) pa_nil))) (pg_tup rfl (pgs_cons (pg_name (i := 2) sc_descending.nd rfl (Or.inl rfl)) (pgs_cons (pg_name (i := 3) sc_descending.nd rfl (Or.inl rfl)) pgs_nil))) (pss_one (ps_if (PW.pt (pw_or (pt_cmpR (op_eqD hr.units) (pv 1) (pe_lst pa_nil) (nomark _)) (pw_or1 (pt_cmpR op_lt (pv 3) (pe_ix ix_tup (pe_ix ix_list (pv 1) (pe_un un_neg pe_int) (fun _ _ => rfl)) pe_int (fun _ _ => rfl)) (nomark _))))) (pss_one (ps_expr (pe_bm PySem.F.plainAttrs_list PySem.F.slot_list_append PySem.F.type_list_append mt_append (pv 1) (pa_cons (pe_tup (pa_cons (pv 2) (pa_cons (pv 3) pa_nil))) pa_nil)))) pss_nil)))
    (pss_one (ps_ret (pe_callTy call_tuple_of rfl T.b_tuple (by decide +kernel) (pa_cons (pv 1) pa_nil)))))), ?_⟩
  obtain ⟨ps, rfl, rfl, hz⟩ := h
  refine ⟨.rt (.d (prsD (desc ps))), ?_, .inl rfl⟩
  let fs : Nat → List Pr := fun i => ((srt ps).take i).foldl dstep []
  let Γs : Nat → List Sl := fun i => [.f (ps.map prD), .l ((fs i).map prD), .un, .un]
  refine semb_seq (semb_set (sem_lst (ds := []) sema_nil (by decide))) ?_
  have hsl := (srt_perm ps).length_eq
  refine semb_seq (Γ1 := Γs ((srt ps).map prD).length) (semb_for Γs (semi_new (sem_cb (sema_cons (sem_varF rfl) sema_nil) (cvd_sortedP rfl))) fun i x hx => ?_) ?_
  · rw [List.getElem?_map] at hx
    obtain ⟨p, hp, rfl⟩ := Option.map_eq_some_iff.mp hx
    have e1 : fs (i + 1) = dstep (fs i) p := fold_take dstep [] hp
    have hl : (fs i).length ≤ 50000 := by
      have := dfold_len ((srt ps).take i) []
      rw [List.length_nil, List.length_take] at this
      show (((srt ps).take i).foldl dstep []).length ≤ 50000
      omega
    refine ⟨_, _, semg_tup (xs := [.int p.1, .int p.2]) rfl (semgs_cons semg_name (semgs_cons semg_name semgs_nil)), .inl ?_⟩
    show SemB K [.f (ps.map prD), .l ((fs i).map prD), .d (.int p.1), .d (.int p.2)] _ (.nx [.f (ps.map prD), .l ((fs (i + 1)).map prD), .un, .un])
    rw [e1]
    generalize fs i = acc at hl
    have tst : SemT K [.f (ps.map prD), .l (acc.map prD), .d (.int p.1), .d (.int p.2)] (tOr (tTest (tOp (rEqD K) (tVar 1) (tLst tNil))) (tTest (tOp (rI0 fun i j => .bl (decide (i < j))) (tVar 3) (tOp (rIxT K) (tOp (rIxL K) (tVar 1) (tUn (rU fun i => .int (-i)) (tC (.int 1)))) (tC (.int 1))))))
        (acc.isEmpty || decide (p.2 < (lastP acc).2)) := by
      have e : acc.isEmpty = (acc.map prD).isEmpty := by cases acc <;> rfl
      refine semt_or (semt_T (sem_op (sem_varL rfl) (sem_lst (ds := []) sema_nil (by decide)) (e ▸ rvd_eqLn (sh_prs acc)))) fun hne => ?_
      have hne' : acc ≠ [] := by
        intro z
        rw [z] at hne
        cases hne
      exact semt_T (sem_op (sem_var rfl) (sem_op (sem_op (r2 := .d (.int (-1))) (sem_varL rfl) (sem_neg sem_int) (rvd_ixL (atI_last hne'))) sem_int (rvd_ixT rfl)) rvd_lt)
    refine semb_if tst (fun e => ?_) fun e => ?_
    · have c : acc = [] ∨ p.2 < (lastP acc).2 := by
        simp only [Bool.or_eq_true, List.isEmpty_iff, decide_eq_true_eq] at e
        exact e
      have e2 : dstep acc p = acc ++ [p] := by unfold dstep; rw [if_pos c]
      rw [e2, List.map_append]
      exact SemB.weak (semb_append rfl (sem_tup (ds := [_, _]) (sema_cons (sem_var rfl) (sema_cons (sem_var rfl) sema_nil)) (by simp)) (by rw [List.length_map]; omega)) (.eq rfl (.eq rfl (.un (.un .nil))))
    · have c : ¬ (acc = [] ∨ p.2 < (lastP acc).2) := by
        simp only [Bool.or_eq_false_iff, decide_eq_false_iff_not] at e
        rintro (z | z)
        · rw [z] at e
          cases e.1
        · exact e.2 z
      have e2 : dstep acc p = acc := by unfold dstep; rw [if_neg c]
      rw [e2]
      exact SemB.weak semb_next (.eq rfl (.eq rfl (.un (.un .nil))))
  · have e1 : fs ((srt ps).map prD).length = desc ps := by
      show ((srt ps).take ((srt ps).map prD).length).foldl dstep [] = _
      rw [List.length_map, List.take_length]
      rfl
    show SemB K [.f (ps.map prD), .l ((fs ((srt ps).map prD).length).map prD), .un, .un] _ _
    rw [e1]
    exact semb_ret (sem_cb (sema_cons (sem_varL rfl) sema_nil) cvd_tupleL)
def pr_moved : List Rk → Rk → Prop := fun rs r => ∃ (ps : List Pr) (a : Int), rs = [.d (prsD ps), .d (.int a)] ∧ r = .d (prsD (mv ps a)) ∧ ps.length ≤ 50000
theorem w_moved (T : Tx K mg) : Df P w K mg base CX0 1 "moved" p_moved (spF K pr_moved) := by
  refine df_sem (N := n_moved) (k := 0) T.f_moved (fun _ _ _ _ _ _ us hl => match us, hl with | [_, _], _ => rfl) sc_moved (fun rs r h => by obtain ⟨ps, a, rfl, _⟩ := h; rfl) ?_
  intro rs r h f cdv A outer s H E hr
  refine ⟨_, (pss_one (ps_ret (pe_callTy call_tuple_of rfl T.b_tuple (by decide +kernel) (pa_cons (pe_lc (own := [("capacity", 2), ("usage", 3)]) (g := (gTup K 2 (gCons (gName 2) (gCons (gName 3) gNil)))) (tt := tYes) rfl sc_moved.nd (pi_tup (pv 0)) (blkOk_by (own := [("capacity", 2), ("usage", 3)]) (N := n_moved) (sc := defScope s_moved) (by decide +kernel)) (fun _ _ _ _ _ => (pg_tup rfl (pgs_cons (pg_name (i := 2) sc_moved.nd rfl (Or.inl rfl)) (pgs_cons (pg_name (i := 3) sc_moved.nd rfl (Or.inl rfl)) pgs_nil)))) (fun _ _ _ _ _ => pts_nil) (fun _ _ _ _ _ => (pe_tup (pa_cons (pe_op op_add (pv 2) (pv 1)) (pa_cons (pe_op op_add (pv 3) (pv 1)) pa_nil))))) pa_nil)))), ?_⟩
  obtain ⟨ps, a, rfl, rfl, hz⟩ := h
  refine ⟨.rt (.d (prsD (mv ps a))), ?_, .inl rfl⟩
  have e : (mv ps a).map prD = ps.map fun p => prD (p.1 + a, p.2 + a) := by unfold mv; rw [List.map_map]; rfl
  unfold prsD
  rw [e]
  refine semb_ret (sem_cbL (sem_lcM ps prD _ (semi_tup (sem_var rfl)).j (by omega) fun p _ => ⟨_, _, semg_tup (xs := [.int p.1, .int p.2]) rfl (semgs_cons semg_name (semgs_cons semg_name semgs_nil)), by decide, ?_⟩) cvd_tupleL)
  exact sem_tup (ds := [_, _]) (sema_cons (sem_op (sem_var rfl) (sem_var rfl) rvd_add) (sema_cons (sem_op (sem_var rfl) (sem_var rfl) rvd_add) sema_nil)) (by simp)
def pr_step_profile_by : List Rk → Rk → Prop := fun rs r => ∃ v : Int, rs = [.d (.int v)] ∧ r = .d (stepP v).data
theorem w_step_profile_by (T : Tx K mg) : Df P w K mg base CX0 1 "step_profile_by" p_step_profile_by (spF K pr_step_profile_by) := by
  refine df_sem (N := n_step_profile_by) (k := 0) T.f_step_profile_by (fun _ _ _ _ _ _ us hl => match us, hl with | [_], _ => rfl) sc_step_profile_by (fun rs r h => by obtain ⟨v, rfl, _⟩ := h; rfl) ?_
  intro rs r h f cdv A outer s H E hr
  refine ⟨_, (pss_cons (ps_if (pt_cmpR op_gt (pv 0) pe_int (nomark _)) (pss_one (ps_ret (pe_tup (pa_cons (pv 0) (pa_cons (pv 0) (pa_cons (pe_tup (pa_cons (pe_tup (pa_cons pe_int (pa_cons pe_int pa_nil))) pa_nil)) (pa_cons (pe_tup (pa_cons (pe_tup (pa_cons (pv 0) (pa_cons pe_int pa_nil))) pa_nil)) pa_nil))))))) pss_nil)
    (pss_one (ps_ret (pe_tup (pa_cons (pv 0) (pa_cons pe_int (pa_cons (pe_tup (pa_cons (pe_tup (pa_cons pe_int (pa_cons (pv 0) pa_nil))) pa_nil)) (pa_cons (pe_tup (pa_cons (pe_tup (pa_cons (pv 0) (pa_cons (pv 0) pa_nil))) pa_nil)) pa_nil)))))))), ?_⟩
  obtain ⟨v, rfl, rfl⟩ := h
  refine ⟨.rt (.d (stepP v).data), ?_, .inl rfl⟩
  have pr : ∀ {ta tb : TE} {i j : Int}, Sem K [.d (.int v)] ta (.d (.int i)) → Sem K [.d (.int v)] tb (.d (.int j)) → Sem K [.d (.int v)] (tTup (tCons (tTup (tCons ta (tCons tb tNil))) tNil)) (.d (prsD [(i, j)])) := fun {ta tb i j} h1 h2 =>
    sem_tup (ds := [_]) (sema_cons (sem_tup (ds := [_, _]) (sema_cons h1 (sema_cons h2 sema_nil)) (by simp)) sema_nil) (by simp)
  by_cases hv : v > 0
  · have e : (stepP v).data = .tuple [.int v, .int v, prsD [(0, 0)], prsD [(v, 0)]] := by unfold stepP; rw [if_pos hv]; rfl
    rw [e]
    exact semb_seqR (semb_if (b := true) (semt_T (sem_op (sem_var rfl) sem_int (rvd_gt' (decide_eq_true hv)))) (fun _ => semb_ret (sem_tup (ds := [_, _, _, _]) (sema_cons (sem_var rfl) (sema_cons (sem_var rfl) (sema_cons (pr sem_int sem_int) (sema_cons (pr (sem_var rfl) sem_int) sema_nil)))) (by simp))) fun z => by cases z)
  · have e : (stepP v).data = .tuple [.int v, .int 0, prsD [(0, v)], prsD [(v, v)]] := by unfold stepP; rw [if_neg hv]; rfl
    rw [e]
    exact semb_seq (semb_if (b := false) (semt_T (sem_op (sem_var rfl) sem_int (rvd_gt' (decide_eq_false hv)))) (fun z => by cases z) fun _ => semb_next) (semb_ret (sem_tup (ds := [_, _, _, _]) (sema_cons (sem_var rfl) (sema_cons sem_int (sema_cons (pr sem_int (sem_var rfl)) (sema_cons (pr (sem_var rfl) (sem_var rfl)) sema_nil)))) (by simp)))
end
end RP
end
section
set_option maxHeartbeats 4000000
namespace RP
open PySem PySem.Spec PyProof.Rows L2
section
variable {P : Program} {w : World} {K : PySem.W.Frag} {mg : Str → Option Value} {base : Heap} {Γ : List Sl} {te ta : TE} {E : XK}
theorem early_fm (ps : List Pr) (pk : Int) : (early ps pk).map prD = ps.filterMap fun p => if p.1 < pk then some (prD p) else none := by
  unfold early
  induction ps with
  | nil => rfl
  | cons p ps ih =>
    by_cases h : p.1 < pk
    · rw [List.filter_cons_of_pos (by simpa using h), List.map_cons, ih, List.filterMap_cons, if_pos h]
    · rw [List.filter_cons_of_neg (by simpa using h), ih, List.filterMap_cons, if_neg h]
def pr_start_behind : List Rk → Rk → Prop := fun rs r => ∃ f g : Prof, rs = [.d f.data, .d g.data] ∧ r = .d (prsD (startB f g)) ∧ f.s ≠ [] ∧ f.sz ≤ 20000 ∧ g.sz ≤ 20000
theorem w_start_behind (T : Tx K mg) : Df P w K mg base CX0 2 "start_behind" p_start_behind (spF K pr_start_behind) := by
  have g_descending := w_descending (P := P) (w := w) (base := base) T
  have g_moved := w_moved (P := P) (w := w) (base := base) T
  refine df_sem (N := n_start_behind) (k := 1) T.f_start_behind (fun _ _ _ _ _ _ us hl => match us, hl with | [_, _], _ => rfl) sc_start_behind (fun rs r h => by obtain ⟨f, g, rfl, _⟩ := h; rfl) ?_
  intro rs r h fa cdv A outer s H E hr
  refine ⟨_, (pss_cons (ps_asg (pv 0) (pg_tup rfl (pgs_cons (pg_name (i := 2) sc_start_behind.nd rfl (Or.inl rfl)) (pgs_cons (pg_name (i := 3) sc_start_behind.nd rfl (Or.inr rfl)) (pgs_cons (pg_name (i := 4) sc_start_behind.nd rfl (Or.inl rfl)) (pgs_cons (pg_name (i := 5) sc_start_behind.nd rfl (Or.inl rfl)) pgs_nil))))))
    (pss_cons (ps_set (i := 6) sc_start_behind.nd rfl (Or.inl rfl) (pe_op op_cat (pe_lc (own := [("pair", 7)]) (g := (gName 7)) rfl sc_start_behind.nd (pi_tup (pv 4)) (blkOk_by (own := [("pair", 7)]) (N := n_start_behind) (sc := defScope s_start_behind) (by decide +kernel)) (fun _ _ _ _ _ => (pg_name (i := 7) sc_start_behind.nd rfl (Or.inl rfl))) (fun _ _ _ _ _ => (pts_one (pt_cmpR op_lt (pe_ix (ix_tupK (K := K)) (pv 7) pe_int (fun _ _ => rfl)) (pv 3) (nomark _)))) (fun _ _ _ _ _ => (pv 7))) (pe_lst (pa_cons (pe_tup (pa_cons (pv 3) (pa_cons (pe_ix ix_tup (pe_ix ix_tup (pv 4) (pe_un un_neg pe_int) (fun _ _ => rfl)) pe_int (fun _ _ => rfl)) pa_nil))) pa_nil))))
    (pss_cons (ps_expr (pe_bm PySem.F.plainAttrs_list PySem.F.slot_list_extend PySem.F.type_list_extend mt_extend (pv 6) (pa_cons (pe_lc (own := [("capacity", 8), ("usage", 9)]) (g := (gTup K 2 (gCons (gName 8) (gCons (gName 9) gNil)))) (tt := tYes) rfl sc_start_behind.nd (pi_tup (pe_df g_moved hr (by omega) pass0 rfl (pa_cons (pe_ix ix_tup (pv 1) pe_int (fun _ _ => rfl)) (pa_cons (pv 2) pa_nil)))) (blkOk_by (own := [("capacity", 8), ("usage", 9)]) (N := n_start_behind) (sc := defScope s_start_behind) (by decide +kernel)) (fun _ _ _ _ _ => (pg_tup rfl (pgs_cons (pg_name (i := 8) sc_start_behind.nd rfl (Or.inl rfl)) (pgs_cons (pg_name (i := 9) sc_start_behind.nd rfl (Or.inl rfl)) pgs_nil)))) (fun _ _ _ _ _ => pts_nil) (fun _ _ _ _ _ => (pe_tup (pa_cons (pe_callB (call_max2 rfl) rfl T.b_max (by decide +kernel) (pa_cons (pv 3) (pa_cons (pv 8) pa_nil))) (pa_cons (pv 9) pa_nil))))) pa_nil)))
    (pss_one (ps_ret (pe_df g_descending hr (by omega) pass0 rfl (pa_cons (pv 6) pa_nil))))))), ?_⟩
  obtain ⟨f, g, rfl, rfl, hs, hf, hg⟩ := h
  refine ⟨.rt (.d (prsD (startB f g))), ?_, .inl rfl⟩
  unfold Prof.sz at hf hg
  have hel := early_len f.s f.peak
  refine semb_seq (semb_asg (sem_var rfl) (semg_tup (xs := [.int f.net, .int f.peak, prsD f.s, prsD f.e]) rfl (semgs_cons semg_name (semgs_cons semg_name (semgs_cons semg_name (semgs_cons semg_name semgs_nil)))))) ?_
  refine semb_seq (semb_set (r := .l ((early f.s f.peak ++ [(f.peak, (lastP f.s).2)]).map prD)) ?_) ?_
  · rw [List.map_append, early_fm]
    refine sem_op (r1 := .l _) (sem_lc f.s prD _ (semi_tup (sem_var rfl)).j (by omega) fun p _ => ⟨_, _, semg_name, by decide, ?_⟩) (sem_lst (ds := [_]) (sema_cons (sem_tup (ds := [.int f.peak, .int (lastP f.s).2]) (sema_cons (sem_var rfl) (sema_cons (sem_last2 (sem_var rfl) hs) sema_nil)) (by simp)) sema_nil) (by simp)) (rvd_cat (.inl rfl) (.inl rfl) ?_)
    · by_cases h : p.1 < f.peak
      · exact .inl ⟨_, by rw [if_pos h], semt_T (sem_op (sem_op (sem_var rfl) sem_int (rvd_ixT rfl)) (sem_var rfl) (rvd_ltD (decide_eq_true h))), sem_var rfl⟩
      · exact .inr ⟨by rw [if_neg h], semt_T (sem_op (sem_op (sem_var rfl) sem_int (rvd_ixT rfl)) (sem_var rfl) (rvd_ltD (decide_eq_false h)))⟩
    · rw [← early_fm]
      simp only [List.length_map, List.length_cons, List.length_nil]
      omega
  refine semb_seq (semb_extend (ys := ((mv g.s f.net).map fun p => (imax f.peak p.1, p.2)).map prD) rfl ?_ ?_) ?_
  · rw [List.map_map]
    refine sem_lcM (mv g.s f.net) prD _ (semi_tup (sem_call (sema_cons (sem_op (sem_var rfl) sem_int (rvd_ixT (x := prsD g.s) rfl)) (sema_cons (sem_var rfl) sema_nil)) ⟨g.s, f.net, rfl, rfl, by omega⟩)).j (by rw [mv_len]; omega) fun p _ => ⟨_, _, semg_tup (xs := [.int p.1, .int p.2]) rfl (semgs_cons semg_name (semgs_cons semg_name semgs_nil)), by decide, ?_⟩
    exact sem_tup (ds := [.int (imax f.peak p.1), .int p.2]) (sema_cons (sem_cb (sema_cons (sem_var rfl) (sema_cons (sem_var rfl) sema_nil)) cvd_max2) (sema_cons (sem_var rfl) sema_nil)) (by simp)
  · simp only [List.length_append, List.length_map, List.length_cons, List.length_nil, mv_len]
    omega
  · rw [← List.map_append]
    refine semb_ret (sem_call (sema_cons (sem_varL rfl) sema_nil) ⟨early f.s f.peak ++ [(f.peak, (lastP f.s).2)] ++ (mv g.s f.net).map fun p => (imax f.peak p.1, p.2), rfl, rfl, ?_⟩)
    simp only [List.length_append, List.length_map, List.length_cons, List.length_nil, mv_len]
    omega
def pr_end_behind : List Rk → Rk → Prop := fun rs r => ∃ f g : Prof, rs = [.d f.data, .d g.data] ∧ r = .d (prsD (endB f g)) ∧ g.e ≠ [] ∧ f.sz ≤ 20000 ∧ g.sz ≤ 20000
theorem w_end_behind (T : Tx K mg) : Df P w K mg base CX0 2 "end_behind" p_end_behind (spF K pr_end_behind) := by
  have g_descending := w_descending (P := P) (w := w) (base := base) T
  have g_moved := w_moved (P := P) (w := w) (base := base) T
  refine df_sem (N := n_end_behind) (k := 1) T.f_end_behind (fun _ _ _ _ _ _ us hl => match us, hl with | [_, _], _ => rfl) sc_end_behind (fun rs r h => by obtain ⟨f, g, rfl, _⟩ := h; rfl) ?_
  intro rs r h fa cdv A outer s H E hr
  refine ⟨_, (pss_cons (ps_set (i := 2) sc_end_behind.nd rfl (Or.inl rfl) (pe_ix ix_tup (pv 0) pe_int (fun _ _ => rfl)))
    (pss_cons (ps_set (i := 3) sc_end_behind.nd rfl (Or.inr rfl) (pe_op op_add (pv 2) (pe_ix ix_tup (pv 1) pe_int (fun _ _ => rfl))))
    (pss_cons (ps_set (i := 4) sc_end_behind.nd rfl (Or.inl rfl) (pe_op op_cat (pe_lc (own := [("pair", 5)]) (g := (gName 5)) rfl sc_end_behind.nd (pi_tup (pe_df g_moved hr (by omega) pass0 rfl (pa_cons (pe_ix ix_tup (pv 1) pe_int (fun _ _ => rfl)) (pa_cons (pv 2) pa_nil)))) (blkOk_by (own := [("pair", 5)]) (N := n_end_behind) (sc := defScope s_end_behind) (by decide +kernel)) (fun _ _ _ _ _ => (pg_name (i := 5) sc_end_behind.nd rfl (Or.inl rfl))) (fun _ _ _ _ _ => (pts_one (pt_cmpR op_lt (pe_ix (ix_tupK (K := K)) (pv 5) pe_int (fun _ _ => rfl)) (pv 3) (nomark _)))) (fun _ _ _ _ _ => (pv 5))) (pe_lst (pa_cons (pe_tup (pa_cons (pv 3) (pa_cons (pe_op op_add (pv 2) (pe_ix ix_tup (pe_ix ix_tup (pe_ix ix_tup (pv 1) pe_int (fun _ _ => rfl)) (pe_un un_neg pe_int) (fun _ _ => rfl)) pe_int (fun _ _ => rfl))) pa_nil))) pa_nil))))
    (pss_cons (ps_expr (pe_bm PySem.F.plainAttrs_list PySem.F.slot_list_extend PySem.F.type_list_extend mt_extend (pv 4) (pa_cons (pe_lc (own := [("capacity", 6), ("usage", 7)]) (g := (gTup K 2 (gCons (gName 6) (gCons (gName 7) gNil)))) (tt := tYes) rfl sc_end_behind.nd (pi_tup (pe_ix ix_tup (pv 0) pe_int (fun _ _ => rfl))) (blkOk_by (own := [("capacity", 6), ("usage", 7)]) (N := n_end_behind) (sc := defScope s_end_behind) (by decide +kernel)) (fun _ _ _ _ _ => (pg_tup rfl (pgs_cons (pg_name (i := 6) sc_end_behind.nd rfl (Or.inl rfl)) (pgs_cons (pg_name (i := 7) sc_end_behind.nd rfl (Or.inl rfl)) pgs_nil)))) (fun _ _ _ _ _ => pts_nil) (fun _ _ _ _ _ => (pe_tup (pa_cons (pe_callB (call_max2 rfl) rfl T.b_max (by decide +kernel) (pa_cons (pv 3) (pa_cons (pv 6) pa_nil))) (pa_cons (pv 7) pa_nil))))) pa_nil)))
    (pss_one (ps_ret (pe_df g_descending hr (by omega) pass0 rfl (pa_cons (pv 4) pa_nil)))))))), ?_⟩
  obtain ⟨f, g, rfl, rfl, hs, hf, hg⟩ := h
  refine ⟨.rt (.d (prsD (endB f g))), ?_, .inl rfl⟩
  unfold Prof.sz at hf hg
  have hel := early_len (mv g.e f.net) (f.net + g.peak)
  rw [mv_len] at hel
  refine semb_seq (semb_set (sem_op (sem_var rfl) sem_int (rvd_ixT (x := .int f.net) rfl))) ?_
  refine semb_seq (semb_set (sem_op (sem_var rfl) (sem_op (sem_var rfl) sem_int (rvd_ixT (x := .int g.peak) rfl)) rvd_add)) ?_
  refine semb_seq (semb_set (r := .l ((early (mv g.e f.net) (f.net + g.peak) ++ [(f.net + g.peak, f.net + (lastP g.e).2)]).map prD)) ?_) ?_
  · rw [List.map_append, early_fm]
    refine sem_op (r1 := .l _) (sem_lc (mv g.e f.net) prD _ (semi_tup (sem_call (sema_cons (sem_op (sem_var rfl) sem_int (rvd_ixT (x := prsD g.e) rfl)) (sema_cons (sem_var rfl) sema_nil)) ⟨g.e, f.net, rfl, rfl, by omega⟩)).j (by rw [mv_len]; omega) fun p _ => ⟨_, _, semg_name, by decide, ?_⟩) (sem_lst (ds := [_]) (sema_cons (sem_tup (ds := [.int (f.net + g.peak), .int (f.net + (lastP g.e).2)]) (sema_cons (sem_var rfl) (sema_cons (sem_op (sem_var rfl) (sem_last2 (sem_op (sem_var rfl) sem_int (rvd_ixT (x := prsD g.e) rfl)) hs) rvd_add) sema_nil)) (by simp)) sema_nil) (by simp)) (rvd_cat (.inl rfl) (.inl rfl) ?_)
    · by_cases h : p.1 < f.net + g.peak
      · exact .inl ⟨_, by rw [if_pos h], semt_T (sem_op (sem_op (sem_var rfl) sem_int (rvd_ixT rfl)) (sem_var rfl) (rvd_ltD (decide_eq_true h))), sem_var rfl⟩
      · exact .inr ⟨by rw [if_neg h], semt_T (sem_op (sem_op (sem_var rfl) sem_int (rvd_ixT rfl)) (sem_var rfl) (rvd_ltD (decide_eq_false h)))⟩
    · rw [← early_fm]
      simp only [List.length_map, List.length_cons, List.length_nil]
      omega
  refine semb_seq (semb_extend (ys := (f.e.map fun p => (imax (f.net + g.peak) p.1, p.2)).map prD) rfl ?_ ?_) ?_
  · rw [List.map_map]
    refine sem_lcM f.e prD _ (semi_tup (sem_op (sem_var rfl) sem_int (rvd_ixT (x := prsD f.e) rfl))).j (by omega) fun p _ => ⟨_, _, semg_tup (xs := [.int p.1, .int p.2]) rfl (semgs_cons semg_name (semgs_cons semg_name semgs_nil)), by decide, ?_⟩
    exact sem_tup (ds := [.int (imax (f.net + g.peak) p.1), .int p.2]) (sema_cons (sem_cb (sema_cons (sem_var rfl) (sema_cons (sem_var rfl) sema_nil)) cvd_max2) (sema_cons (sem_var rfl) sema_nil)) (by simp)
  · simp only [List.length_append, List.length_map, List.length_cons, List.length_nil]
    omega
  · rw [← List.map_append]
    refine semb_ret (sem_call (sema_cons (sem_varL rfl) sema_nil) ⟨early (mv g.e f.net) (f.net + g.peak) ++ [(f.net + g.peak, f.net + (lastP g.e).2)] ++ f.e.map fun p => (imax (f.net + g.peak) p.1, p.2), rfl, rfl, ?_⟩)
    simp only [List.length_append, List.length_map, List.length_cons, List.length_nil]
    omega
def pr_two_profiles_by : List Rk → Rk → Prop := fun rs r => ∃ f g : Prof, rs = [.d f.data, .d g.data] ∧ r = .d (two f g).data ∧ f.Ne ∧ g.Ne ∧ f.sz ≤ 20000 ∧ g.sz ≤ 20000
theorem w_two_profiles_by (T : Tx K mg) : Df P w K mg base CX0 3 "two_profiles_by" p_two_profiles_by (spF K pr_two_profiles_by) := by
  have g_start_behind := w_start_behind (P := P) (w := w) (base := base) T
  have g_end_behind := w_end_behind (P := P) (w := w) (base := base) T
  refine df_sem (N := n_two_profiles_by) (k := 2) T.f_two_profiles_by (fun _ _ _ _ _ _ us hl => match us, hl with | [_, _], _ => rfl) sc_two_profiles_by (fun rs r h => by obtain ⟨f, g, rfl, _⟩ := h; rfl) ?_
  intro rs r h fa cdv A outer s H E hr
  refine ⟨_, (pss_cons (ps_par (i := 2) (j := 3) rfl sc_two_profiles_by.nd rfl rfl (by decide) rfl rfl (pa_cons (pe_op op_add (pe_ix ix_tup (pv 0) pe_int (fun _ _ => rfl)) (pe_ix ix_tup (pv 1) pe_int (fun _ _ => rfl))) (pa_cons (pe_callB (call_max2 rfl) rfl T.b_max (by decide +kernel) (pa_cons (pe_ix ix_tup (pv 0) pe_int (fun _ _ => rfl)) (pa_cons (pe_op op_add (pe_ix ix_tup (pv 0) pe_int (fun _ _ => rfl)) (pe_ix ix_tup (pv 1) pe_int (fun _ _ => rfl))) pa_nil))) pa_nil)) (by rfl))
    (pss_one (ps_ret (pe_tup (pa_cons (pv 2) (pa_cons (pv 3) (pa_cons (pe_df g_start_behind hr (by omega) pass0 rfl (pa_cons (pv 0) (pa_cons (pv 1) pa_nil))) (pa_cons (pe_df g_end_behind hr (by omega) pass0 rfl (pa_cons (pv 0) (pa_cons (pv 1) pa_nil))) pa_nil)))))))), ?_⟩
  obtain ⟨f, g, rfl, rfl, nf, ng, hf, hg⟩ := h
  refine ⟨.rt (.d (two f g).data), ?_, .inl rfl⟩
  refine semb_seq (semb_par (sem_op (sem_op (sem_var rfl) sem_int (rvd_ixT (x := .int f.net) rfl)) (sem_op (sem_var rfl) sem_int (rvd_ixT (x := .int g.net) rfl)) rvd_add) (sem_cb (sema_cons (sem_op (sem_var rfl) sem_int (rvd_ixT (x := .int f.peak) rfl)) (sema_cons (sem_op (sem_op (sem_var rfl) sem_int (rvd_ixT (x := .int f.net) rfl)) (sem_op (sem_var rfl) sem_int (rvd_ixT (x := .int g.peak) rfl)) rvd_add) sema_nil)) cvd_max2) (by decide)) ?_
  exact semb_ret (sem_tup (ds := [.int (f.net + g.net), .int (imax f.peak (f.net + g.peak)), prsD (startB f g), prsD (endB f g)]) (sema_cons (sem_var rfl) (sema_cons (sem_var rfl) (sema_cons (sem_call (sema_cons (sem_var rfl) (sema_cons (sem_var rfl) sema_nil)) ⟨f, g, rfl, rfl, nf.s, hf, hg⟩) (sema_cons (sem_call (sema_cons (sem_var rfl) (sema_cons (sem_var rfl) sema_nil)) ⟨f, g, rfl, rfl, ng.e, hf, hg⟩) sema_nil)))) (by simp))
def pr_seq_profiles_by : List Rk → Rk → Prop := fun rs r => ∃ fs : List Prof, rs = [.s (fs.map Prof.data)] ∧ r = .d (seqP fs).data ∧ (∀ f ∈ fs, f.Ne) ∧ szS fs ≤ 10000
theorem w_seq_profiles_by (T : Tx K mg) : Df P w K mg base CX0 4 "seq_profiles_by" p_seq_profiles_by (spF K pr_seq_profiles_by) := by
  have g_two_profiles_by := w_two_profiles_by (P := P) (w := w) (base := base) T
  refine df_sem (N := n_seq_profiles_by) (k := 3) T.f_seq_profiles_by (fun _ _ _ _ _ _ us hl => match us, hl with | [_], _ => rfl) sc_seq_profiles_by (fun rs r h => by obtain ⟨fs, rfl, _⟩ := h; rfl) ?_
  intro rs r h fa cdv A outer s H E hr
  refine ⟨_, (pss_cons (ps_set (i := 1) sc_seq_profiles_by.nd rfl (Or.inl rfl) (pe_gref rfl T.c_EMPTY_basic))
    (pss_cons (ps_for PassesOwn.never rfl (pi_list (pv 0)) (pg_name (i := 2) sc_seq_profiles_by.nd rfl (Or.inl rfl)) (pss_one (ps_set (i := 1) sc_seq_profiles_by.nd rfl (Or.inl rfl) (pe_df g_two_profiles_by hr (by omega) pass0 rfl (pa_cons (pv 1) (pa_cons (pv 2) pa_nil))))))
    (pss_one (ps_ret (pv 1))))), ?_⟩
  obtain ⟨fs, rfl, rfl, nf, hz⟩ := h
  refine ⟨.rt (.d (seqP fs).data), ?_, .inl rfl⟩
  let gs : Nat → Prof := fun i => (fs.take i).foldl two .empty
  let Γs : Nat → List Sl := fun i => [.f (fs.map Prof.data), .d (gs i).data, .un]
  refine semb_seq (semb_set (sem_k T.k_EMPTY_basic)) ?_
  refine semb_seq (Γ1 := Γs (fs.map Prof.data).length) (semb_for Γs (semi_in rfl) fun i x hx => ?_) ?_
  · rw [List.getElem?_map] at hx
    obtain ⟨f, hf, rfl⟩ := Option.map_eq_some_iff.mp hx
    have hm := List.mem_of_getElem? hf
    have e1 : gs (i + 1) = two (gs i) f := fold_take two .empty hf
    have h1 : (gs i).sz ≤ 20000 := by
      have h1 := fold_sz (fs.take i) .empty
      have h2 := szS_take fs i
      have h3 : Prof.empty.sz = 2 := rfl
      show ((fs.take i).foldl two .empty).sz ≤ 20000
      omega
    have h2 : f.sz ≤ 20000 := by
      have : ∀ (l : List Prof), f ∈ l → f.sz ≤ szS l := by
        intro l
        induction l with
        | nil => intro h; cases h
        | cons g l ih =>
          intro h
          rw [szS_cons]
          rcases List.mem_cons.mp h with rfl | h
          · omega
          · have := ih h
            omega
      have := this fs hm
      omega
    refine ⟨_, _, semg_name, .inl (SemB.weak (semb_set (sem_call (sema_cons (sem_var rfl) (sema_cons (sem_var rfl) sema_nil)) ⟨gs i, f, rfl, rfl, fold_ne _ _ empty_ne, nf f hm, h1, h2⟩)) (.eq rfl (.eq ?_ (.un .nil))))⟩
    show Sl.d (gs (i + 1)).data = _
    rw [e1]
    rfl
  · have e1 : gs (fs.map Prof.data).length = seqP fs := by
      show (fs.take (fs.map Prof.data).length).foldl two .empty = _
      rw [List.length_map, List.take_length]
      rfl
    show SemB K [.f (fs.map Prof.data), .d (gs (fs.map Prof.data).length).data, .un] _ _
    rw [e1]
    exact semb_ret (sem_var rfl)
end
end RP
end
section
set_option maxHeartbeats 4000000
namespace RP
open PySem PySem.Spec PyProof.Rows L2
section
variable {P : Program} {w : World} {K : PySem.W.Frag} {mg : Str → Option Value} {base : Heap} {Γ : List Sl} {te ta : TE} {E : XK}
def natD (n : Nat) : PyData := .int (n : Nat)
def optD : Option Pr → PyData
  | none => .none
  | some p => prD p
theorem atI_nat {α : Type} {xs : List α} {i : Nat} {x : α} (h : xs[i]? = some x) : atI xs (i : Int) = some x := by
  have hl := (List.getElem?_eq_some_iff.mp h).1
  unfold atI ixN
  rw [if_pos (by omega), if_pos (by omega), Int.toNat_natCast]
  exact h
theorem getD_at {α : Type} {xs : List α} {i : Nat} {d : α} (h : i < xs.length) : xs[i]? = some (xs.getD i d) := by
  rw [List.getD_eq_getElem?_getD, List.getElem?_eq_getElem h]
  rfl
theorem nat_at {pl : List Nat} {i : Nat} (h : i < pl.length) : atI (pl.map natD) (i : Int) = some (natD (pl.getD i 0)) := atI_nat (by rw [List.getElem?_map, getD_at h]; rfl)
theorem int_at {lo : List Int} {i : Nat} (h : i < lo.length) : atI (lo.map PyData.int) (i : Int) = some (.int (lo.getD i 0)) := atI_nat (by rw [List.getElem?_map, getD_at h]; rfl)
theorem pr_at {v : List Pr} {i : Nat} (h : i < v.length) : atI (v.map prD) (i : Int) = some (prD (v.getD i (0, 0))) := atI_nat (by rw [List.getElem?_map, getD_at h]; rfl)
theorem part_at {parts : List (List Pr)} {i : Nat} (h : i < parts.length) : atI (parts.map prsD) (i : Int) = some (prsD (parts.getD i [])) := atI_nat (by rw [List.getElem?_map, getD_at h]; rfl)
def pr_next_drop : List Rk → Rk → Prop := fun rs r => ∃ (parts : List (List Pr)) (pl : List Nat) (lo : List Int), rs = [.s (parts.map prsD), .s (pl.map natD), .s (lo.map PyData.int)] ∧ r = .d (optD (drop1 parts pl lo)) ∧ pl.length = parts.length ∧ lo.length = parts.length ∧ parts.length ≤ 50000
theorem w_next_drop (T : Tx K mg) : Df P w K mg base CX0 1 "next_drop" p_next_drop (spF K pr_next_drop) := by
  refine df_sem (N := n_next_drop) (k := 0) T.f_next_drop (fun _ _ _ _ _ _ us hl => match us, hl with | [_, _, _], _ => rfl) sc_next_drop (fun rs r h => by obtain ⟨parts, pl, lo, rfl, _⟩ := h; rfl) ?_
  intro rs r h fa cdv A outer s H E hr
  refine ⟨_, (pss_cons (ps_set (i := 3) sc_next_drop.nd rfl (Or.inl rfl) (pe_callB (cr_sum rfl) rfl T.b_sum (by decide +kernel) (pa_cons (pv 2) pa_nil)))
    (pss_cons (ps_set (i := 4) sc_next_drop.nd rfl (Or.inl rfl) (pe_lst pa_nil))
    (pss_cons (ps_for PassesOwn.never rfl (pi_enum rfl T.b_enumerate (pa_cons (pv 0) pa_nil)) (pg_tup rfl (pgs_cons (pg_name (i := 5) sc_next_drop.nd rfl (Or.inl rfl)) (pgs_cons (pg_name (i := 6) sc_next_drop.nd rfl (Or.inl rfl)) pgs_nil))) (pss_one (ps_if (pt_cmpR op_lt (pe_op op_add (pe_ix ix_list (pv 1) (pv 5) (fun _ _ => rfl)) pe_int) (pe_callB call_len_seq rfl T.b_len (by decide +kernel) (pa_cons (pv 6) pa_nil)) (nomark _)) (pss_one (ps_expr (pe_bm PySem.F.plainAttrs_list PySem.F.slot_list_append PySem.F.type_list_append mt_append (pv 4) (pa_cons (pe_tup (pa_cons (pe_op op_sub (pe_op op_add (pe_ix ix_tup (pe_ix ix_tup (pv 6) (pe_op op_add (pe_ix ix_list (pv 1) (pv 5) (fun _ _ => rfl)) pe_int) (fun _ _ => rfl)) pe_int (fun _ _ => rfl)) (pv 3)) (pe_ix ix_list (pv 2) (pv 5) (fun _ _ => rfl))) (pa_cons (pv 5) pa_nil))) pa_nil)))) pss_nil)))
    (pss_one (ps_ret (pe_ifExp (pt_cmpR (op_neD hr.units) (pv 4) (pe_lst pa_nil) (nomark _)) (pe_callB (cr_minP rfl (room65 hr)) rfl T.b_min (by decide +kernel) (pa_cons (pv 4) pa_nil)) pe_non)))))), ?_⟩
  obtain ⟨parts, pl, lo, rfl, rfl, hpl, hlo, hz⟩ := h
  refine ⟨.rt (.d (optD (drop1 parts pl lo))), ?_, .inl rfl⟩
  let fs : Nat → List Pr := fun i => (List.range i).filterMap (dropAt parts pl lo)
  let Γs : Nat → List Sl := fun i => [.f (parts.map prsD), .f (pl.map natD), .f (lo.map PyData.int), .d (.int lo.sum), .l ((fs i).map prD), .un, .un]
  refine semb_seq (semb_set (sem_cb (sema_cons (sem_varF rfl) sema_nil) cvd_sumS)) ?_
  refine semb_seq (semb_set (sem_lst (ds := []) sema_nil (by decide))) ?_
  have hpar : ∀ (i : Nat) (x : PyData), (pairs0 (parts.map prsD))[i]? = some x → ∃ v, parts[i]? = some v ∧ x = .tuple [.int (i : Nat), prsD v] := fun i x hx => by
    unfold pairs0 at hx
    rw [List.getElem?_mapIdx] at hx
    obtain ⟨y, hy, rfl⟩ := Option.map_eq_some_iff.mp hx
    rw [List.getElem?_map] at hy
    obtain ⟨v, hv, rfl⟩ := Option.map_eq_some_iff.mp hy
    exact ⟨v, hv, rfl⟩
  refine semb_seq (Γ1 := Γs (pairs0 (parts.map prsD)).length) (semb_for Γs (semi_enumIn rfl) fun i x hx => ?_) ?_
  · obtain ⟨v, hv, rfl⟩ := hpar i x hx
    have hi := (List.getElem?_eq_some_iff.mp hv).1
    have ev : parts.getD i [] = v := by rw [List.getD_eq_getElem?_getD, hv]; rfl
    have e1 : fs (i + 1) = fs i ++ (dropAt parts pl lo i).toList := by
      show (List.range (i + 1)).filterMap (dropAt parts pl lo) = _
      rw [List.range_succ, List.filterMap_append]
      congr 1
    have hfl : (fs i).length ≤ 50000 := by
      have := List.length_filterMap_le (dropAt parts pl lo) (List.range i)
      rw [List.length_range] at this
      show ((List.range i).filterMap (dropAt parts pl lo)).length ≤ 50000
      omega
    refine ⟨_, _, semg_tup rfl (semgs_cons semg_name (semgs_cons semg_name semgs_nil)), .inl ?_⟩
    show SemB K [.f (parts.map prsD), .f (pl.map natD), .f (lo.map PyData.int), .d (.int lo.sum), .l ((fs i).map prD), .d (.int (i : Nat)), .d (prsD v)] _ (.nx [.f (parts.map prsD), .f (pl.map natD), .f (lo.map PyData.int), .d (.int lo.sum), .l ((fs (i + 1)).map prD), .un, .un])
    rw [e1]
    generalize fs i = acc at hfl
    have place : Sem K [.f (parts.map prsD), .f (pl.map natD), .f (lo.map PyData.int), .d (.int lo.sum), .l (acc.map prD), .d (.int (i : Nat)), .d (prsD v)] (tOp (rI0 fun i j => .int (i + j)) (tOp (rIxL K) (tVar 1) (tVar 5)) (tC (.int 1))) (.d (.int ((pl.getD i 0 + 1 : Nat) : Int))) :=
      sem_op (r1 := .d (natD (pl.getD i 0))) (sem_op (sem_varF rfl) (sem_var rfl) (rvd_ixL (nat_at (by omega)))) sem_int rvd_add
    by_cases hl : pl.getD i 0 + 1 < v.length
    · have e2 : dropAt parts pl lo i = some ((v.getD (pl.getD i 0 + 1) (0, 0)).1 + lo.sum - lo.getD i 0, (i : Int)) := by
        unfold dropAt
        rw [ev, if_pos hl]
      rw [e2]
      refine semb_if (b := true) (semt_T (sem_op place (sem_cb (sema_cons (sem_var (x := .tuple (v.map prD)) rfl) sema_nil) cvd_lenT) (rvd_ltD ?_))) (fun _ => ?_) fun z => by cases z
      · rw [List.length_map]
        exact decide_eq_true (by omega)
      · have e3 : (acc ++ (some ((v.getD (pl.getD i 0 + 1) (0, 0)).1 + lo.sum - lo.getD i 0, (i : Int)) : Option Pr).toList).map prD = acc.map prD ++ [.tuple [.int ((v.getD (pl.getD i 0 + 1) (0, 0)).1 + lo.sum - lo.getD i 0), .int (i : Nat)]] := by
          rw [List.map_append]
          rfl
        rw [e3]
        refine SemB.weak (semb_append rfl (sem_tup (ds := [_, _]) (sema_cons (sem_op (sem_op (sem_op (sem_op (sem_var (x := .tuple (v.map prD)) rfl) place (rvd_ixT (pr_at hl))) sem_int (rvd_ixT rfl)) (sem_var rfl) rvd_add) (sem_op (sem_varF rfl) (sem_var rfl) (rvd_ixL (int_at (by omega)))) rvd_sub) (sema_cons (sem_var rfl) sema_nil)) (by simp)) (by rw [List.length_map]; omega)) (.eq rfl (.eq rfl (.eq rfl (.eq rfl (.eq rfl (.un (.un .nil)))))))
    · have e2 : dropAt parts pl lo i = none := by
        unfold dropAt
        rw [ev, if_neg hl]
      rw [e2]
      have e3 : (acc ++ (none : Option Pr).toList) = acc := by simp
      rw [e3]
      refine SemB.weak (semb_if (b := false) (semt_T (sem_op place (sem_cb (sema_cons (sem_var (x := .tuple (v.map prD)) rfl) sema_nil) cvd_lenT) (rvd_ltD ?_))) (fun z => by cases z) fun _ => semb_next) (.eq rfl (.eq rfl (.eq rfl (.eq rfl (.eq rfl (.un (.un .nil)))))))
      rw [List.length_map]
      exact decide_eq_false (by omega)
  · have e1 : fs (pairs0 (parts.map prsD)).length = drops parts pl lo := by
      show (List.range (pairs0 (parts.map prsD)).length).filterMap (dropAt parts pl lo) = _
      rw [pairs0_len, List.length_map]
      rfl
    show SemB K [.f (parts.map prsD), .f (pl.map natD), .f (lo.map PyData.int), .d (.int lo.sum), .l ((fs (pairs0 (parts.map prsD)).length).map prD), .un, .un] _ _
    rw [e1]
    unfold drop1
    cases hd : drops parts pl lo with
    | nil => exact semb_ret (sem_if (b := false) (semt_T (sem_op (sem_varL rfl) (sem_lst (ds := []) sema_nil (by decide)) (rvd_neLn sh_lnil))) (fun z => by cases z) fun _ => sem_non)
    | cons p ps => exact semb_ret (sem_if (b := true) (semt_T (sem_op (sem_varL rfl) (sem_lst (ds := []) sema_nil (by decide)) (rvd_neLn (sh_prs (p :: ps))))) (fun _ => sem_cb (sema_cons (sem_varL rfl) sema_nil) cvd_minP) fun z => by cases z)
theorem fits_len {parts : List (List Pr)} (h : fitsJ parts) : parts.length ≤ jlen parts := by
  induction parts with
  | nil => exact Nat.zero_le _
  | cons v parts ih =>
    have h1 := List.length_pos_iff.mpr (h v List.mem_cons_self)
    have h2 := ih fun x hx => h x (List.mem_cons_of_mem _ hx)
    unfold jlen at h2 ⊢
    rw [List.length_cons, List.map_cons, List.sum_cons]
    omega
theorem natD_ints (pl : List Nat) : pl.map natD = (pl.map fun n : Nat => (n : Int)).map PyData.int := by rw [List.map_map]; rfl
def pr_joint : List Rk → Rk → Prop := fun rs r => ∃ parts : List (List Pr), rs = [.s (parts.map prsD)] ∧ r = .d (prsD (RP.joint parts)) ∧ fitsJ parts ∧ jlen parts ≤ 20000
theorem w_joint (T : Tx K mg) : Df P w K mg base CX0 2 "joint" p_joint (spF K pr_joint) := by
  have g_next_drop := w_next_drop (P := P) (w := w) (base := base) T
  have g_descending := w_descending (P := P) (w := w) (base := base) T
  refine df_sem (N := n_joint) (k := 1) T.f_joint (fun _ _ _ _ _ _ us hl => match us, hl with | [_], _ => rfl) sc_joint (fun rs r h => by obtain ⟨parts, rfl, _⟩ := h; rfl) ?_
  intro rs r h fa cdv A outer s H E hr
  refine ⟨_, (pss_cons (ps_setLc (i := 1) (own := [("valleys", 7)]) (g := (gName 7)) (tt := tYes) rfl sc_joint.nd rfl rfl (sw_true rfl rfl rfl (by decide +kernel)) (pi_list (pv 0)) (blkOk_by (own := [("valleys", 7)]) (N := n_joint) (sc := defScope s_joint) (by decide +kernel)) (fun _ _ _ _ _ => (pg_name (i := 7) sc_joint.nd rfl (Or.inl rfl))) (fun _ _ _ _ _ => pts_nil) (fun _ _ _ _ _ => pe_int))
    (pss_cons (ps_setLc (i := 2) (own := [("valleys", 7)]) (g := (gName 7)) (tt := tYes) rfl sc_joint.nd rfl rfl (sw_true rfl rfl rfl (by decide +kernel)) (pi_list (pv 0)) (blkOk_by (own := [("valleys", 7)]) (N := n_joint) (sc := defScope s_joint) (by decide +kernel)) (fun _ _ _ _ _ => (pg_name (i := 7) sc_joint.nd rfl (Or.inl rfl))) (fun _ _ _ _ _ => pts_nil) (fun _ _ _ _ _ => (pe_ix (ix_tupK (K := K)) (pe_ix (ix_tupK (K := K)) (pv 7) pe_int (fun _ _ => rfl)) pe_int (fun _ _ => rfl))))
    (pss_cons (ps_set (i := 3) sc_joint.nd rfl (Or.inl rfl) (pe_lst (pa_cons (pe_tup (pa_cons pe_int (pa_cons (pe_callB (cr_sum rfl) rfl T.b_sum (by decide +kernel) (pa_cons (pv 2) pa_nil)) pa_nil))) pa_nil)))
    (pss_cons (ps_set (i := 4) sc_joint.nd rfl (Or.inl rfl) pe_int)
    (pss_cons (ps_set (i := 5) sc_joint.nd rfl (Or.inl rfl) (pe_df g_next_drop hr (by omega) pass0 rfl (pa_cons (pv 0) (pa_cons (pv 1) (pa_cons (pv 2) pa_nil)))))
    (pss_cons (ps_while PassesOwn.never (pt_cmpR op_notN (pv 5) pe_non (nomark _)) (pss_cons (ps_set (i := 4) sc_joint.nd rfl (Or.inl rfl) (pe_callB (call_max2 rfl) rfl T.b_max (by decide +kernel) (pa_cons (pv 4) (pa_cons (pe_ix ix_tup (pv 5) pe_int (fun _ _ => rfl)) pa_nil))))
    (pss_cons (ps_set (i := 6) sc_joint.nd rfl (Or.inl rfl) (pe_ix ix_tup (pv 5) pe_int (fun _ _ => rfl)))
    (pss_cons (ps_augS (pv 1) (pv 6) get_list pe_int ip_add set_list)
    (pss_cons (ps_asg (pe_ix ix_tup (pe_ix ix_tup (pe_ix ix_list (pv 0) (pv 6) (fun _ _ => rfl)) (pe_ix ix_list (pv 1) (pv 6) (fun _ _ => rfl)) (fun _ _ => rfl)) pe_int (fun _ _ => rfl)) (pg_sub (pv 2) (pv 6) set_list))
    (pss_cons (ps_expr (pe_bm PySem.F.plainAttrs_list PySem.F.slot_list_append PySem.F.type_list_append mt_append (pv 3) (pa_cons (pe_tup (pa_cons (pv 4) (pa_cons (pe_callB (cr_sum rfl) rfl T.b_sum (by decide +kernel) (pa_cons (pv 2) pa_nil)) pa_nil))) pa_nil)))
    (pss_one (ps_set (i := 5) sc_joint.nd rfl (Or.inl rfl) (pe_df g_next_drop hr (by omega) pass0 rfl (pa_cons (pv 0) (pa_cons (pv 1) (pa_cons (pv 2) pa_nil))))))))))))
    (pss_one (ps_ret (pe_df g_descending hr (by omega) pass0 rfl (pa_cons (pv 3) pa_nil)))))))))), ?_⟩
  obtain ⟨parts, rfl, rfl, hf, hz⟩ := h
  refine ⟨.rt (.d (prsD (RP.joint parts))), ?_, .inl rfl⟩
  have hpl := fits_len hf
  let D : Nat → Option Pr := fun i => drop1 parts (jseq parts i).pl (jseq parts i).lo
  let Γs : Nat → List Sl := fun i => [.f (parts.map prsD), .l ((jseq parts i).pl.map natD), .l ((jseq parts i).lo.map PyData.int), .l ((jseq parts i).ps.map prD), .d (.int (jseq parts i).cap), .d (optD (D i)), .un, .un]
  obtain ⟨n, hn, he, hb⟩ := jseq_end hf
  have I := jseq_inv hf
  refine semb_seq (semb_set (r := .l ((jst parts).pl.map natD)) ?_) ?_
  · have e : (jst parts).pl.map natD = parts.map fun _ => PyData.int 0 := by
      show (parts.map fun _ => 0).map natD = _
      rw [List.map_map]
      rfl
    rw [e]
    exact sem_lcM parts prsD (fun _ => .int 0) (semi_in rfl).j (by omega) fun v _ => ⟨_, _, semg_name, by decide, sem_int⟩
  refine semb_seq (semb_set (r := .l ((low0 parts).map PyData.int)) ?_) ?_
  · have e : (low0 parts).map PyData.int = parts.map fun v => PyData.int (v.getD 0 (0, 0)).2 := by unfold low0; rw [List.map_map]; rfl
    rw [e]
    exact sem_lcM parts prsD _ (semi_in rfl).j (by omega) fun v hv => ⟨_, _, semg_name, by decide, sem_op (sem_op (r2 := .d (.int ((0 : Nat) : Int))) (sem_var (x := .tuple (v.map prD)) rfl) sem_int (rvd_ixT (pr_at (List.length_pos_iff.mpr (hf v hv))))) sem_int (rvd_ixT rfl)⟩
  refine semb_seq (semb_set (r := .l ([(0, (low0 parts).sum)].map prD)) (sem_lst (ds := [_]) (sema_cons (sem_tup (ds := [.int 0, .int (low0 parts).sum]) (sema_cons sem_int (sema_cons (sem_cb (sema_cons (sem_varL rfl) sema_nil) cvd_sumS) sema_nil)) (by simp)) sema_nil) (by simp))) ?_
  refine semb_seq (semb_set sem_int) ?_
  have nd : ∀ (i : Nat) {Γ : List Sl}, Γ[0]? = some (.f (parts.map prsD)) → Γ[1]? = some (.l ((jseq parts i).pl.map natD)) → Γ[2]? = some (.l ((jseq parts i).lo.map PyData.int)) → Sem K Γ (tCall (spF K pr_next_drop) [] E0 (tCons (tVar 0) (tCons (tVar 1) (tCons (tVar 2) tNil)))) (.d (optD (D i))) := fun i Γ g0 g1 g2 =>
    sem_call (sema_cons (sem_varF g0) (sema_cons (sem_varL g1) (sema_cons (sem_varL g2) sema_nil))) ⟨parts, _, _, rfl, rfl, (I i).pl, (I i).lo, by omega⟩
  refine semb_seq (semb_set (nd 0 rfl rfl rfl)) ?_
  refine semb_seq (Γ1 := Γs n) (SemB.from (semb_while Γs n (fun i hi => ?_) ?_ fun i hi => ?_) (Le.refl _)) ?_
  · refine semt_T (sem_op (sem_var rfl) sem_non (rvd_isnotN' ?_))
    cases hd : D i with
    | none => exact absurd hd (hb i hi)
    | some d => rfl
  · refine semt_T (sem_op (sem_var rfl) sem_non (rvd_isnotN' ?_))
    have : D n = none := he
    rw [this]
    rfl
  · cases hd : D i with
    | none => exact absurd hd (hb i hi)
    | some d =>
      obtain ⟨m, hm, hlt, ed⟩ := drop1_some hd
      have Ii := I i
      have hs : jseq parts (i + 1) = (jseq parts i).next parts := rfl
      rw [next_some hd] at hs
      have e2 : d.2 = (m : Int) := by rw [ed]
      rw [e2] at hs
      simp only [Int.toNat_natCast] at hs
      have hpm : m < (jseq parts i).pl.length := by rw [Ii.pl]; exact hm
      have hlm : m < (jseq parts i).lo.length := by rw [Ii.lo]; exact hm
      have q1 : (jseq parts (i + 1)).pl = (jseq parts i).pl.set m ((jseq parts i).pl.getD m 0 + 1) := by rw [hs]
      have q2 : (jseq parts (i + 1)).lo = (jseq parts i).lo.set m ((parts.getD m []).getD ((jseq parts i).pl.getD m 0 + 1) (0, 0)).2 := by rw [hs, getD_set_self hpm]
      have q4 : (jseq parts (i + 1)).cap = imax (jseq parts i).cap d.1 := by rw [hs]
      have q3 : (jseq parts (i + 1)).ps = (jseq parts i).ps ++ [((jseq parts (i + 1)).cap, (jseq parts (i + 1)).lo.sum)] := by rw [hs]
      have hps := Ii.ps
      show SemB K [.f (parts.map prsD), .l ((jseq parts i).pl.map natD), .l ((jseq parts i).lo.map PyData.int), .l ((jseq parts i).ps.map prD), .d (.int (jseq parts i).cap), .d (optD (D i)), .un, .un] _ (.nx [.f (parts.map prsD), .l ((jseq parts (i + 1)).pl.map natD), .l ((jseq parts (i + 1)).lo.map PyData.int), .l ((jseq parts (i + 1)).ps.map prD), .d (.int (jseq parts (i + 1)).cap), .d (optD (D (i + 1))), .un, .un])
      rw [hd]
      have nd1 := fun {Γ} => nd (i + 1) (Γ := Γ)
      rw [q3, List.map_append]
      refine semb_seq (semb_set (r := .d (.int (jseq parts (i + 1)).cap)) ?_) ?_
      · rw [q4]
        exact sem_cb (sema_cons (sem_var rfl) (sema_cons (sem_op (sem_var rfl) sem_int (rvd_ixT (x := .int d.1) rfl)) sema_nil)) cvd_max2
      refine semb_seq (semb_set (r := .d (.int (m : Nat))) ?_) ?_
      · rw [← e2]
        exact sem_op (sem_var rfl) sem_int (rvd_ixT (x := .int d.2) rfl)
      refine semb_seq (Γ1 := [.f (parts.map prsD), .l ((jseq parts (i + 1)).pl.map natD), .l ((jseq parts i).lo.map PyData.int), .l ((jseq parts i).ps.map prD), .d (.int (jseq parts (i + 1)).cap), .d (optD (some d)), .d (.int (m : Nat)), .un]) (SemB.weak (semb_augItem (i := 1) (k := m) (ns := (jseq parts i).pl.map fun n : Nat => (n : Int)) (n := ((jseq parts i).pl.getD m 0 : Nat)) (m := 1) ?_ (sem_var rfl) sem_int ?_) (.eq rfl (.eq ?_ (.eq rfl (.eq rfl (.eq rfl (.eq rfl (.eq rfl (.eq rfl .nil))))))))) ?_
      · rw [← natD_ints]
        rfl
      · rw [List.getElem?_map, getD_at hpm]
        rfl
      · rw [q1, natD_ints]
        rw [List.map_set]
        rfl
      refine semb_seq (Γ1 := [.f (parts.map prsD), .l ((jseq parts (i + 1)).pl.map natD), .l ((jseq parts (i + 1)).lo.map PyData.int), .l ((jseq parts i).ps.map prD), .d (.int (jseq parts (i + 1)).cap), .d (optD (some d)), .d (.int (m : Nat)), .un]) (SemB.weak (semb_setItem (i := 2) (k := m) (x := .int ((parts.getD m []).getD ((jseq parts i).pl.getD m 0 + 1) (0, 0)).2) rfl (sem_var rfl) ?_ (by rw [List.length_map]; exact hlm)) (.eq rfl (.eq rfl (.eq ?_ (.eq rfl (.eq rfl (.eq rfl (.eq rfl (.eq rfl .nil))))))))) ?_
      · have e5 : (jseq parts (i + 1)).pl.getD m 0 = (jseq parts i).pl.getD m 0 + 1 := by rw [q1, getD_set_self hpm]
        refine sem_op (sem_op (r2 := .d (.int ((jseq parts i).pl.getD m 0 + 1 : Nat))) (sem_op (sem_varF rfl) (sem_var rfl) (rvd_ixL (part_at hm))) ?_ (rvd_ixT (ds := (parts.getD m []).map prD) (pr_at hlt))) sem_int (rvd_ixT rfl)
        rw [← e5]
        exact sem_op (sem_varL rfl) (sem_var rfl) (rvd_ixL (nat_at (by rw [q1, List.length_set]; exact hpm)))
      · rw [q2, List.map_set]
      refine semb_seq (semb_append rfl (sem_tup (ds := [.int (jseq parts (i + 1)).cap, .int (jseq parts (i + 1)).lo.sum]) (sema_cons (sem_var rfl) (sema_cons (sem_cb (sema_cons (sem_varL rfl) sema_nil) cvd_sumS) sema_nil)) (by simp)) (by rw [List.length_map]; omega)) ?_
      exact SemB.weak (semb_set (nd1 rfl rfl rfl)) (.eq rfl (.eq rfl (.eq rfl (.eq rfl (.eq rfl (.eq rfl (.un (.un .nil))))))))
  · rw [joint_eq hn he]
    have hps := (I n).ps
    exact semb_ret (sem_call (sema_cons (sem_varL rfl) sema_nil) ⟨_, rfl, rfl, by omega⟩)
end
end RP
end
section
set_option maxHeartbeats 4000000
namespace RP
open PySem PySem.Spec PyProof.Rows L2
section
variable {P : Program} {w : World} {K : PySem.W.Frag} {mg : Str → Option Value} {base : Heap} {Γ : List Sl} {te ta : TE} {E : XK}
theorem szS_len : ∀ fs : List Prof, 2 * fs.length ≤ szS fs
  | [] => Nat.le_refl _
  | f :: fs => by
    have := szS_len fs
    rw [szS_cons, List.length_cons]
    omega
theorem szS_mem {f : Prof} : ∀ {fs : List Prof}, f ∈ fs → f.sz + 2 ≤ szS fs
  | g :: fs, h => by
    rw [szS_cons]
    rcases List.mem_cons.mp h with rfl | h
    · omega
    · have := szS_mem h
      omega
def pr_peak_beside : List Rk → Rk → Prop := fun rs r => ∃ (fs : List Prof) (s e : List Pr), rs = [.s (fs.map Prof.data), .d (prsD s), .d (prsD e)] ∧ r = .d (.int (peakB fs s e)) ∧ (∀ f ∈ fs, f.Ne) ∧ s ≠ [] ∧ e ≠ [] ∧ fs.length ≤ 50000
theorem w_peak_beside (T : Tx K mg) : Df P w K mg base CX0 1 "peak_beside" p_peak_beside (spF K pr_peak_beside) := by
  refine df_sem (N := n_peak_beside) (k := 0) T.f_peak_beside (fun _ _ _ _ _ _ us hl => match us, hl with | [_, _, _], _ => rfl) sc_peak_beside (fun rs r h => by obtain ⟨fs, s, e, rfl, _⟩ := h; rfl) ?_
  intro rs r h fa cdv A outer sh H E hr
  refine ⟨_, (pss_cons (ps_set (i := 3) sc_peak_beside.nd rfl (Or.inr rfl) (pe_callB (cr_sum rfl) rfl T.b_sum (by decide +kernel) (pa_cons (pe_lc (own := [("profile", 5)]) (g := (gName 5)) (tt := tYes) rfl sc_peak_beside.nd (pi_list (pv 0)) (blkOk_by (own := [("profile", 5)]) (N := n_peak_beside) (sc := defScope s_peak_beside) (by decide +kernel)) (fun _ _ _ _ _ => (pg_name (i := 5) sc_peak_beside.nd rfl (Or.inl rfl))) (fun _ _ _ _ _ => pts_nil) (fun _ _ _ _ _ => (pe_ix (ix_tupK (K := K)) (pe_ix (ix_tupK (K := K)) (pe_ix (ix_tupK (K := K)) (pv 5) pe_int (fun _ _ => rfl)) (pe_un un_neg pe_int) (fun _ _ => rfl)) pe_int (fun _ _ => rfl)))) pa_nil)))
    (pss_cons (ps_setLc (i := 4) (own := [("profile", 5)]) (g := (gName 5)) (tt := tYes) rfl sc_peak_beside.nd rfl rfl (sw_true rfl rfl rfl (by decide +kernel)) (pi_list (pv 0)) (blkOk_by (own := [("profile", 5)]) (N := n_peak_beside) (sc := defScope s_peak_beside) (by decide +kernel)) (fun _ _ _ _ _ => (pg_name (i := 5) sc_peak_beside.nd rfl (Or.inl rfl))) (fun _ _ _ _ _ => pts_nil) (fun _ _ _ _ _ => (pe_op op_sub (pe_op op_add (pe_ix (ix_tupK (K := K)) (pv 5) pe_int (fun _ _ => rfl)) (pv 3)) (pe_ix (ix_tupK (K := K)) (pe_ix (ix_tupK (K := K)) (pe_ix (ix_tupK (K := K)) (pv 5) pe_int (fun _ _ => rfl)) (pe_un un_neg pe_int) (fun _ _ => rfl)) pe_int (fun _ _ => rfl)))))
    (pss_one (ps_ret (pe_callB (cr_max rfl) rfl T.b_max (by decide +kernel) (pa_cons (pe_op op_cat (pe_lst (pa_cons (pe_ix ix_tup (pe_ix ix_tup (pv 1) (pe_un un_neg pe_int) (fun _ _ => rfl)) pe_int (fun _ _ => rfl)) (pa_cons (pe_ix ix_tup (pe_ix ix_tup (pv 2) (pe_un un_neg pe_int) (fun _ _ => rfl)) pe_int (fun _ _ => rfl)) pa_nil))) (pv 4)) pa_nil)))))), ?_⟩
  obtain ⟨fs, s, e, rfl, rfl, nf, ns, ne, hz⟩ := h
  refine ⟨.rt (.d (.int (peakB fs s e))), ?_, .inl rfl⟩
  have e1 : (fs.map fun f => (lastP f.s).2).map PyData.int = fs.map fun f => PyData.int (lastP f.s).2 := by rw [List.map_map]; rfl
  have e2 : (fs.map fun f => f.peak + lowest fs - (lastP f.s).2).map PyData.int = fs.map fun f => PyData.int (f.peak + lowest fs - (lastP f.s).2) := by rw [List.map_map]; rfl
  refine semb_seq (semb_set (r := .d (.int (lowest fs))) (sem_cb (sema_cons (r := .l ((fs.map fun f => (lastP f.s).2).map PyData.int)) ?_ sema_nil) (cvd_sum rfl))) ?_
  · rw [e1]
    exact sem_lcM fs Prof.data _ (semi_in rfl).j (by omega) fun f hf => ⟨_, _, semg_name, by decide, sem_last2 (sem_op (sem_var rfl) sem_int (rvd_ixT (x := prsD f.s) rfl)) (nf f hf).s⟩
  refine semb_seq (semb_set (r := .l ((fs.map fun f => f.peak + lowest fs - (lastP f.s).2).map PyData.int)) ?_) ?_
  · rw [e2]
    exact sem_lcM fs Prof.data _ (semi_in rfl).j (by omega) fun f hf => ⟨_, _, semg_name, by decide, sem_op (sem_op (sem_op (sem_var rfl) sem_int (rvd_ixT (x := .int f.peak) rfl)) (sem_var rfl) rvd_add) (sem_last2 (sem_op (sem_var rfl) sem_int (rvd_ixT (x := prsD f.s) rfl)) (nf f hf).s) rvd_sub⟩
  exact semb_ret (sem_cb (sema_cons (sem_op (r1 := .l [.int (lastP s).1, .int (lastP e).1]) (sem_lst (ds := [_, _]) (sema_cons (sem_last1 (sem_var rfl) ns) (sema_cons (sem_last1 (sem_var rfl) ne) sema_nil)) (by simp)) (sem_varL rfl) (rvd_cat (.inl rfl) (.inr rfl) (by simp only [List.length_map, List.length_cons, List.length_nil]; omega))) sema_nil) (cvd_maxL rfl))
def pr_par_profiles_by : List Rk → Rk → Prop := fun rs r => ∃ fs : List Prof, rs = [.s (fs.map Prof.data)] ∧ r = .d (parP fs).data ∧ (∀ f ∈ fs, f.Ne) ∧ szS fs ≤ 10000
theorem jlen_s (fs : List Prof) : jlen (fs.map Prof.s) ≤ szS fs := by
  induction fs with
  | nil => exact Nat.le_refl _
  | cons f fs ih =>
    have e : jlen ((f :: fs).map Prof.s) = f.s.length + jlen (fs.map Prof.s) := rfl
    rw [e, szS_cons]
    unfold Prof.sz
    omega
theorem jlen_e (fs : List Prof) : jlen (fs.map fun f => mv f.e (0 - f.net)) ≤ szS fs := by
  induction fs with
  | nil => exact Nat.le_refl _
  | cons f fs ih =>
    have e : jlen ((f :: fs).map fun f => mv f.e (0 - f.net)) = (mv f.e (0 - f.net)).length + jlen (fs.map fun f => mv f.e (0 - f.net)) := rfl
    rw [e, szS_cons, mv_len]
    unfold Prof.sz
    omega
theorem sem_callL {pre : List Rk → Rk → Prop} {ds : List PyData} {r : Rk} (ha : Sem K Γ ta (.l ds)) (h : pre [.s ds] r) : Sem K Γ (tCall (spF K pre) [] E (tCons ta tNil)) r := sem_call (sema_consL ha sema_nil) h
theorem w_par_profiles_by (T : Tx K mg) : Df P w K mg base CX0 3 "par_profiles_by" p_par_profiles_by (spF K pr_par_profiles_by) := by
  have g_joint := w_joint (P := P) (w := w) (base := base) T
  have g_moved := w_moved (P := P) (w := w) (base := base) T
  have g_peak_beside := w_peak_beside (P := P) (w := w) (base := base) T
  refine df_sem (N := n_par_profiles_by) (k := 2) T.f_par_profiles_by (fun _ _ _ _ _ _ us hl => match us, hl with | [_], _ => rfl) sc_par_profiles_by (fun rs r h => by obtain ⟨fs, rfl, _⟩ := h; rfl) ?_
  intro rs r h fa cdv A outer sh H E hr
  refine ⟨_, (pss_cons (ps_set (i := 1) sc_par_profiles_by.nd rfl (Or.inl rfl) (pe_callB (cr_sum rfl) rfl T.b_sum (by decide +kernel) (pa_cons (pe_lc (own := [("profile", 4)]) (g := (gName 4)) (tt := tYes) rfl sc_par_profiles_by.nd (pi_list (pv 0)) (blkOk_by (own := [("profile", 4)]) (N := n_par_profiles_by) (sc := defScope s_par_profiles_by) (by decide +kernel)) (fun _ _ _ _ _ => (pg_name (i := 4) sc_par_profiles_by.nd rfl (Or.inl rfl))) (fun _ _ _ _ _ => pts_nil) (fun _ _ _ _ _ => (pe_ix (ix_tupK (K := K)) (pv 4) pe_int (fun _ _ => rfl)))) pa_nil)))
    (pss_cons (ps_set (i := 2) sc_par_profiles_by.nd rfl (Or.inl rfl) (pe_df g_joint hr (by omega) pass0 rfl (pa_cons (pe_lc (own := [("profile", 4)]) (g := (gName 4)) (tt := tYes) rfl sc_par_profiles_by.nd (pi_list (pv 0)) (blkOk_by (own := [("profile", 4)]) (N := n_par_profiles_by) (sc := defScope s_par_profiles_by) (by decide +kernel)) (fun _ _ _ _ _ => (pg_name (i := 4) sc_par_profiles_by.nd rfl (Or.inl rfl))) (fun _ _ _ _ _ => pts_nil) (fun _ _ _ _ _ => (pe_ix (ix_tupK (K := K)) (pv 4) pe_int (fun _ _ => rfl)))) pa_nil)))
    (pss_cons (ps_set (i := 3) sc_par_profiles_by.nd rfl (Or.inl rfl) (pe_df g_moved hr (by omega) pass0 rfl (pa_cons (pe_df g_joint hr (by omega) pass0 rfl (pa_cons (pe_lc (own := [("profile", 4)]) (g := (gName 4)) (tt := tYes) rfl sc_par_profiles_by.nd (pi_list (pv 0)) (blkOk_by (own := [("profile", 4)]) (N := n_par_profiles_by) (sc := defScope s_par_profiles_by) (by decide +kernel)) (fun _ _ _ _ _ => (pg_name (i := 4) sc_par_profiles_by.nd rfl (Or.inl rfl))) (fun _ _ _ _ _ => pts_nil) (fun _ _ _ _ _ => (pe_df g_moved hr (by omega) pass0 rfl (pa_cons (pe_ix (ix_tupK (K := K)) (pv 4) pe_int (fun _ _ => rfl)) (pa_cons (pe_op op_sub pe_int (pe_ix (ix_tupK (K := K)) (pv 4) pe_int (fun _ _ => rfl))) pa_nil))))) pa_nil)) (pa_cons (pv 1) pa_nil))))
    (pss_one (ps_ret (pe_tup (pa_cons (pv 1) (pa_cons (pe_df g_peak_beside hr (by omega) pass0 rfl (pa_cons (pv 0) (pa_cons (pv 2) (pa_cons (pv 3) pa_nil)))) (pa_cons (pv 2) (pa_cons (pv 3) pa_nil)))))))))), ?_⟩
  obtain ⟨fs, rfl, rfl, nf, hz⟩ := h
  refine ⟨.rt (.d (parP fs).data), ?_, .inl rfl⟩
  have hlen := szS_len fs
  have f1 : fitsJ (fs.map Prof.s) := fun v hv => by
    obtain ⟨f, hf, rfl⟩ := List.mem_map.mp hv
    exact (nf f hf).s
  have f2 : fitsJ (fs.map fun f => mv f.e (0 - f.net)) := fun v hv => by
    obtain ⟨f, hf, rfl⟩ := List.mem_map.mp hv
    exact mv_ne (nf f hf).e
  have l1 := jlen_s fs
  have l2 := jlen_e fs
  have l3 := joint_len f2
  refine semb_seq (semb_set (r := .d (.int (netS fs))) (sem_cb (sema_cons (r := .l ((fs.map Prof.net).map PyData.int)) ?_ sema_nil) (cvd_sum rfl))) ?_
  · rw [List.map_map]
    exact sem_lcM fs Prof.data _ (semi_in rfl).j (by omega) fun f hf => ⟨_, _, semg_name, by decide, sem_op (sem_var rfl) sem_int (rvd_ixT rfl)⟩
  refine semb_seq (semb_set (r := .d (prsD (parS fs))) (sem_callL (ds := (fs.map Prof.s).map prsD) ?_ ⟨_, rfl, rfl, f1, by omega⟩)) ?_
  · rw [List.map_map]
    exact sem_lcM fs Prof.data _ (semi_in rfl).j (by omega) fun f hf => ⟨_, _, semg_name, by decide, sem_op (sem_var rfl) sem_int (rvd_ixT rfl)⟩
  refine semb_seq (semb_set (r := .d (prsD (parE fs))) (sem_call (sema_cons (sem_callL (ds := (fs.map fun f => mv f.e (0 - f.net)).map prsD) (r := .d (prsD (RP.joint (fs.map fun f => mv f.e (0 - f.net))))) ?_ ⟨_, rfl, rfl, f2, by omega⟩) (sema_cons (sem_var rfl) sema_nil)) ⟨_, netS fs, rfl, rfl, by omega⟩)) ?_
  · rw [List.map_map]
    refine sem_lcM fs Prof.data _ (semi_in rfl).j (by omega) fun f hf => ⟨_, _, semg_name, by decide, ?_⟩
    have hfs := szS_mem hf
    unfold Prof.sz at hfs
    exact sem_call (sema_cons (sem_op (sem_var rfl) sem_int (rvd_ixT (x := prsD f.e) rfl)) (sema_cons (sem_op sem_int (sem_op (sem_var rfl) sem_int (rvd_ixT (x := .int f.net) rfl)) rvd_sub) sema_nil)) ⟨f.e, 0 - f.net, rfl, rfl, by omega⟩
  exact semb_ret (sem_tup (ds := [.int (netS fs), .int (peakB fs (parS fs) (parE fs)), prsD (parS fs), prsD (parE fs)]) (sema_cons (sem_var rfl) (sema_cons (sem_call (sema_cons (sem_varF rfl) (sema_cons (sem_var rfl) (sema_cons (sem_var rfl) sema_nil))) ⟨fs, parS fs, parE fs, rfl, rfl, nf, joint_ne f1, mv_ne (joint_ne f2), by omega⟩) (sema_cons (sem_var rfl) (sema_cons (sem_var rfl) sema_nil)))) (by simp))
/-! ### many -/
def pr_rounds_start : List Rk → Rk → Prop := fun rs r => ∃ (n net pk : Int) (s : List Pr), rs = [.d (.int n), .d (.int net), .d (.int pk), .d (prsD s)] ∧ r = .d (prsD (roundsS n net pk s)) ∧ s ≠ [] ∧ s.length ≤ 20000 ∧ CMulW (n - 1) net
theorem w_rounds_start (T : Tx K mg) : Df P w K mg base CX0 2 "rounds_start" p_rounds_start (spF K pr_rounds_start) := by
  have g_descending := w_descending (P := P) (w := w) (base := base) T
  refine df_sem (N := n_rounds_start) (k := 1) T.f_rounds_start (fun _ _ _ _ _ _ us hl => match us, hl with | [_, _, _, _], _ => rfl) sc_rounds_start (fun rs r h => by obtain ⟨n, net, pk, s, rfl, _⟩ := h; rfl) ?_
  intro rs r h fa cdv A outer sh H E hr
  refine ⟨_, (pss_cons (ps_if (pt_cmpR op_ge (pv 1) pe_int (nomark _)) (pss_one (ps_ret (pv 3))) pss_nil)
    (pss_cons (ps_setLc (i := 4) (own := [("pair", 5)]) (g := (gName 5)) rfl sc_rounds_start.nd rfl rfl (sw_true rfl rfl rfl (by decide +kernel)) (pi_tup (pv 3)) (blkOk_by (own := [("pair", 5)]) (N := n_rounds_start) (sc := defScope s_rounds_start) (by decide +kernel)) (fun _ _ _ _ _ => (pg_name (i := 5) sc_rounds_start.nd rfl (Or.inl rfl))) (fun _ _ _ _ _ => (pts_one (pt_cmpR op_lt (pe_ix (ix_tupK (K := K)) (pv 5) pe_int (fun _ _ => rfl)) (pv 2) (nomark _)))) (fun _ _ _ _ _ => (pv 5)))
    (pss_one (ps_ret (pe_df g_descending hr (by omega) pass0 rfl (pa_cons (pe_op op_cat (pv 4) (pe_lst (pa_cons (pe_tup (pa_cons (pv 2) (pa_cons (pe_op op_add (pe_op op_mulW (pe_op op_sub (pv 0) pe_int) (pv 1)) (pe_ix ix_tup (pe_ix ix_tup (pv 3) (pe_un un_neg pe_int) (fun _ _ => rfl)) pe_int (fun _ _ => rfl))) pa_nil))) pa_nil))) pa_nil)))))), ?_⟩
  obtain ⟨n, net, pk, s, rfl, rfl, ns, hz, hm⟩ := h
  refine ⟨.rt (.d (prsD (roundsS n net pk s))), ?_, .inl rfl⟩
  have hel := early_len s pk
  by_cases h0 : net ≥ 0
  · have e : roundsS n net pk s = s := by unfold roundsS; rw [if_pos h0]
    rw [e]
    exact semb_seqR (semb_if (b := true) (semt_T (sem_op (sem_var rfl) sem_int (rvd_ge' (decide_eq_true h0)))) (fun _ => semb_ret (sem_var rfl)) fun z => by cases z)
  · have e : roundsS n net pk s = desc (early s pk ++ [(pk, (n - 1) * net + (lastP s).2)]) := by unfold roundsS; rw [if_neg h0]
    rw [e]
    refine semb_seq (semb_if (b := false) (semt_T (sem_op (sem_var rfl) sem_int (rvd_ge' (decide_eq_false h0)))) (fun z => by cases z) fun _ => semb_next) ?_
    refine semb_seq (semb_set (r := .l ((early s pk).map prD)) ?_) ?_
    · rw [early_fm]
      refine sem_lc s prD _ (semi_tup (sem_var rfl)).j (by omega) fun p _ => ⟨_, _, semg_name, by decide, ?_⟩
      by_cases h : p.1 < pk
      · exact .inl ⟨_, by rw [if_pos h], semt_T (sem_op (sem_op (sem_var rfl) sem_int (rvd_ixT rfl)) (sem_var rfl) (rvd_ltD (decide_eq_true h))), sem_var rfl⟩
      · exact .inr ⟨by rw [if_neg h], semt_T (sem_op (sem_op (sem_var rfl) sem_int (rvd_ixT rfl)) (sem_var rfl) (rvd_ltD (decide_eq_false h)))⟩
    · refine semb_ret (sem_callL (ds := (early s pk ++ [(pk, (n - 1) * net + (lastP s).2)]).map prD) ?_ ⟨_, rfl, rfl, by simp only [List.length_append, List.length_cons, List.length_nil]; omega⟩)
      rw [List.map_append]
      exact sem_op (sem_varL rfl) (sem_lst (ds := [_]) (sema_cons (sem_tup (ds := [.int pk, .int ((n - 1) * net + (lastP s).2)]) (sema_cons (sem_var rfl) (sema_cons (sem_op (sem_op (sem_op (sem_var rfl) sem_int rvd_sub) (sem_var rfl) (rvd_mul hm)) (sem_last2 (sem_var rfl) ns) rvd_add) sema_nil)) (by simp)) sema_nil) (by simp)) (rvd_cat (.inr rfl) (.inl rfl) (by simp only [List.length_map, List.length_cons, List.length_nil]; omega))
def pr_repeat_profile_by : List Rk → Rk → Prop := fun rs r => ∃ (n : Int) (f : Prof), rs = [.d (.int n), .d f.data] ∧ r = .d (repP n f).data ∧ f.Ne ∧ f.sz ≤ 10000 ∧ CMulW n f.net ∧ CMulW (n - 1) f.net ∧ CMulW (n - 1) (0 - f.net)
theorem w_repeat_profile_by (T : Tx K mg) : Df P w K mg base CX0 3 "repeat_profile_by" p_repeat_profile_by (spF K pr_repeat_profile_by) := by
  have g_rounds_start := w_rounds_start (P := P) (w := w) (base := base) T
  have g_moved := w_moved (P := P) (w := w) (base := base) T
  refine df_sem (N := n_repeat_profile_by) (k := 2) T.f_repeat_profile_by (fun _ _ _ _ _ _ us hl => match us, hl with | [_, _], _ => rfl) sc_repeat_profile_by (fun rs r h => by obtain ⟨n, f, rfl, _⟩ := h; rfl) ?_
  intro rs r h fa cdv A outer sh H E hr
  refine ⟨_, (pss_cons (ps_if (pt_cmpR op_eq (pv 0) pe_int (nomark _)) (pss_one (ps_ret (pe_gref rfl T.c_EMPTY_basic))) pss_nil)
    (pss_cons (ps_asg (pv 1) (pg_tup rfl (pgs_cons (pg_name (i := 2) sc_repeat_profile_by.nd rfl (Or.inl rfl)) (pgs_cons (pg_name (i := 3) sc_repeat_profile_by.nd rfl (Or.inl rfl)) (pgs_cons (pg_name (i := 4) sc_repeat_profile_by.nd rfl (Or.inl rfl)) (pgs_cons (pg_name (i := 5) sc_repeat_profile_by.nd rfl (Or.inl rfl)) pgs_nil))))))
    (pss_cons (ps_set (i := 6) sc_repeat_profile_by.nd rfl (Or.inl rfl) (pe_op op_mulW (pv 0) (pv 2)))
    (pss_cons (ps_set (i := 7) sc_repeat_profile_by.nd rfl (Or.inl rfl) (pe_df g_rounds_start hr (by omega) pass0 rfl (pa_cons (pv 0) (pa_cons (pe_op op_sub pe_int (pv 2)) (pa_cons (pe_op op_sub (pv 3) (pv 2)) (pa_cons (pe_df g_moved hr (by omega) pass0 rfl (pa_cons (pv 5) (pa_cons (pe_op op_sub pe_int (pv 2)) pa_nil))) pa_nil))))))
    (pss_one (ps_ret (pe_tup (pa_cons (pv 6) (pa_cons (pe_op op_add (pv 3) (pe_callB (call_max2 rfl) rfl T.b_max (by decide +kernel) (pa_cons pe_int (pa_cons (pe_op op_sub (pv 6) (pv 2)) pa_nil)))) (pa_cons (pe_df g_rounds_start hr (by omega) pass0 rfl (pa_cons (pv 0) (pa_cons (pv 2) (pa_cons (pv 3) (pa_cons (pv 4) pa_nil))))) (pa_cons (pe_df g_moved hr (by omega) pass0 rfl (pa_cons (pv 7) (pa_cons (pv 6) pa_nil))) pa_nil))))))))))), ?_⟩
  obtain ⟨n, f, rfl, rfl, nf, hz, m1, m2, m3⟩ := h
  refine ⟨.rt (.d (repP n f).data), ?_, .inl rfl⟩
  unfold Prof.sz at hz
  by_cases h0 : n = 0
  · have e : repP n f = .empty := by unfold repP; rw [if_pos h0]
    rw [e]
    exact semb_seqR (semb_if (b := true) (semt_T (sem_op (sem_var rfl) sem_int (rvd_eqI' (decide_eq_true h0)))) (fun _ => semb_ret (sem_k T.k_EMPTY_basic)) fun z => by cases z)
  · have e : (repP n f).data = .tuple [.int (n * f.net), .int (f.peak + imax 0 (n * f.net - f.net)), prsD (roundsS n f.net f.peak f.s), prsD (mv (roundsS n (0 - f.net) (f.peak - f.net) (mv f.e (0 - f.net))) (n * f.net))] := by unfold repP; rw [if_neg h0]; rfl
    rw [e]
    have rl := rounds_len n (0 - f.net) (f.peak - f.net) (mv f.e (0 - f.net))
    rw [mv_len] at rl
    refine semb_seq (semb_if (b := false) (semt_T (sem_op (sem_var rfl) sem_int (rvd_eqI' (decide_eq_false h0)))) (fun z => by cases z) fun _ => semb_next) ?_
    refine semb_seq (semb_asg (sem_var rfl) (semg_tup (xs := [.int f.net, .int f.peak, prsD f.s, prsD f.e]) rfl (semgs_cons semg_name (semgs_cons semg_name (semgs_cons semg_name (semgs_cons semg_name semgs_nil)))))) ?_
    refine semb_seq (semb_set (sem_op (sem_var rfl) (sem_var rfl) (rvd_mul m1))) ?_
    refine semb_seq (semb_set (sem_call (sema_cons (sem_var rfl) (sema_cons (sem_op sem_int (sem_var rfl) rvd_sub) (sema_cons (sem_op (sem_var rfl) (sem_var rfl) rvd_sub) (sema_cons (sem_call (sema_cons (sem_var rfl) (sema_cons (sem_op sem_int (sem_var rfl) rvd_sub) sema_nil)) ⟨f.e, 0 - f.net, rfl, rfl, by omega⟩) sema_nil)))) ⟨n, 0 - f.net, f.peak - f.net, mv f.e (0 - f.net), rfl, rfl, mv_ne nf.e, by rw [mv_len]; omega, m3⟩)) ?_
    exact semb_ret (sem_tup (ds := [_, _, _, _]) (sema_cons (sem_var rfl) (sema_cons (sem_op (sem_var rfl) (sem_cb (sema_cons sem_int (sema_cons (sem_op (sem_var rfl) (sem_var rfl) rvd_sub) sema_nil)) cvd_max2) rvd_add) (sema_cons (sem_call (sema_cons (sem_var rfl) (sema_cons (sem_var rfl) (sema_cons (sem_var rfl) (sema_cons (sem_var rfl) sema_nil)))) ⟨n, f.net, f.peak, f.s, rfl, rfl, nf.s, by omega, m2⟩)
      (sema_cons (sem_call (sema_cons (sem_var rfl) (sema_cons (sem_var rfl) sema_nil)) ⟨_, n * f.net, rfl, rfl, by omega⟩) sema_nil)))) (by simp))
def pr_copies_start : List Rk → Rk → Prop := fun rs r => ∃ (n : Int) (s : List Pr), rs = [.d (.int n), .d (prsD s)] ∧ r = .d (prsD (copS n s)) ∧ s.length ≤ 20000 ∧ CMulW (n - 1) 0 ∧ ∀ p ∈ s, CMulW (n - 1) p.2 ∧ CMulW n p.2
theorem w_copies_start (T : Tx K mg) : Df P w K mg base CX0 2 "copies_start" p_copies_start (spF K pr_copies_start) := by
  have g_descending := w_descending (P := P) (w := w) (base := base) T
  refine df_sem (N := n_copies_start) (k := 1) T.f_copies_start (fun _ _ _ _ _ _ us hl => match us, hl with | [_, _], _ => rfl) sc_copies_start (fun rs r h => by obtain ⟨n, s, rfl, _⟩ := h; rfl) ?_
  intro rs r h fa cdv A outer sh H E hr
  refine ⟨_, (pss_cons (ps_set (i := 2) sc_copies_start.nd rfl (Or.inl rfl) (pe_lst pa_nil))
    (pss_cons (ps_asg (pe_tup (pa_cons pe_int (pa_cons pe_int pa_nil))) (pg_tup rfl (pgs_cons (pg_name (i := 3) sc_copies_start.nd rfl (Or.inl rfl)) (pgs_cons (pg_name (i := 4) sc_copies_start.nd rfl (Or.inl rfl)) pgs_nil))))
    (pss_cons (ps_for PassesOwn.never rfl (pi_tup (pv 1)) (pg_tup rfl (pgs_cons (pg_name (i := 5) sc_copies_start.nd rfl (Or.inl rfl)) (pgs_cons (pg_name (i := 6) sc_copies_start.nd rfl (Or.inl rfl)) pgs_nil))) (pss_cons (ps_set (i := 3) sc_copies_start.nd rfl (Or.inl rfl) (pe_callB (call_max2 rfl) rfl T.b_max (by decide +kernel) (pa_cons (pv 3) (pa_cons (pe_op op_add (pv 5) (pe_op op_mulW (pe_op op_sub (pv 0) pe_int) (pv 4))) pa_nil))))
    (pss_cons (ps_set (i := 4) sc_copies_start.nd rfl (Or.inl rfl) (pv 6))
    (pss_one (ps_expr (pe_bm PySem.F.plainAttrs_list PySem.F.slot_list_append PySem.F.type_list_append mt_append (pv 2) (pa_cons (pe_tup (pa_cons (pv 3) (pa_cons (pe_op op_mulW (pv 0) (pv 4)) pa_nil))) pa_nil)))))))
    (pss_one (ps_ret (pe_df g_descending hr (by omega) pass0 rfl (pa_cons (pv 2) pa_nil))))))), ?_⟩
  obtain ⟨n, s, rfl, rfl, hz, m0, m⟩ := h
  refine ⟨.rt (.d (prsD (copS n s))), ?_, .inl rfl⟩
  let st : Nat → List Pr × Int × Int := fun i => (s.take i).foldl (copStep n) ([], 0, 0)
  let Γs : Nat → List Sl := fun i => [.d (.int n), .d (prsD s), .l ((st i).1.map prD), .d (.int (st i).2.1), .d (.int (st i).2.2), .un, .un]
  have hl : ∀ i, (st i).1.length ≤ 20000 := fun i => by
    have := cop_fold n (s.take i) ([], 0, 0)
    rw [List.length_take, List.length_nil] at this
    show ((s.take i).foldl (copStep n) ([], 0, 0)).1.length ≤ 20000
    omega
  have hlow : ∀ i, CMulW (n - 1) (st i).2.2 := fun i => by
    cases i with
    | zero => exact m0
    | succ i =>
      by_cases hi : i < s.length
      · have e1 : st (i + 1) = copStep n (st i) s[i] := fold_take (copStep n) ([], 0, 0) (List.getElem?_eq_getElem hi)
        rw [e1]
        exact (m _ (List.getElem_mem hi)).1
      · have key : ∀ (l : List Pr) (c : List Pr × Int × Int), CMulW (n - 1) c.2.2 → (∀ p ∈ l, CMulW (n - 1) p.2 ∧ CMulW n p.2) → CMulW (n - 1) (l.foldl (copStep n) c).2.2 := by
          intro l
          induction l with
          | nil => intro c h _; exact h
          | cons p l ih => intro c h hp; exact ih _ (hp p List.mem_cons_self).1 fun q hq => hp q (List.mem_cons_of_mem _ hq)
        exact key _ _ m0 fun p hp => m p (List.mem_of_mem_take hp)
  refine semb_seq (semb_set (sem_lst (ds := []) sema_nil (by decide))) ?_
  refine semb_seq (semb_asg (sem_tup (ds := [_, _]) (sema_cons sem_int (sema_cons sem_int sema_nil)) (by decide)) (semg_tup rfl (semgs_cons semg_name (semgs_cons semg_name semgs_nil)))) ?_
  refine semb_seq (Γ1 := Γs (s.map prD).length) (semb_for Γs (semi_tup (sem_var rfl)) fun i x hx => ?_) ?_
  · rw [List.getElem?_map] at hx
    obtain ⟨p, hp, rfl⟩ := Option.map_eq_some_iff.mp hx
    have hm := m p (List.mem_of_getElem? hp)
    have hlo := hlow i
    have hli := hl i
    have e1 : st (i + 1) = copStep n (st i) p := fold_take (copStep n) ([], 0, 0) hp
    refine ⟨_, _, semg_tup (xs := [.int p.1, .int p.2]) rfl (semgs_cons semg_name (semgs_cons semg_name semgs_nil)), .inl ?_⟩
    show SemB K [.d (.int n), .d (prsD s), .l ((st i).1.map prD), .d (.int (st i).2.1), .d (.int (st i).2.2), .d (.int p.1), .d (.int p.2)] _ (.nx [.d (.int n), .d (prsD s), .l ((st (i + 1)).1.map prD), .d (.int (st (i + 1)).2.1), .d (.int (st (i + 1)).2.2), .un, .un])
    rw [e1]
    generalize st i = c at hlo hli
    obtain ⟨ps, cap, low⟩ := c
    have e2 : (copStep n (ps, cap, low) p).1.map prD = ps.map prD ++ [.tuple [.int (imax cap (p.1 + (n - 1) * low)), .int (n * p.2)]] := by
      show (ps ++ [_]).map prD = _
      rw [List.map_append]
      rfl
    rw [e2]
    refine semb_seq (semb_set (sem_cb (sema_cons (sem_var rfl) (sema_cons (sem_op (sem_var rfl) (sem_op (sem_op (sem_var rfl) sem_int rvd_sub) (sem_var rfl) (rvd_mul hlo)) rvd_add) sema_nil)) cvd_max2)) ?_
    refine semb_seq (semb_set (sem_var rfl)) ?_
    exact SemB.weak (semb_append rfl (sem_tup (ds := [_, _]) (sema_cons (sem_var rfl) (sema_cons (sem_op (sem_var rfl) (sem_var rfl) (rvd_mul hm.2)) sema_nil)) (by simp)) (by rw [List.length_map]; exact Nat.le_trans hli (by decide))) (.eq rfl (.eq rfl (.eq rfl (.eq rfl (.eq rfl (.un (.un .nil)))))))
  · have e1 : st (s.map prD).length = s.foldl (copStep n) ([], 0, 0) := by
      show (s.take (s.map prD).length).foldl (copStep n) ([], 0, 0) = _
      rw [List.length_map, List.take_length]
    have hll := hl (s.map prD).length
    show SemB K [.d (.int n), .d (prsD s), .l ((st (s.map prD).length).1.map prD), .d (.int (st (s.map prD).length).2.1), .d (.int (st (s.map prD).length).2.2), .un, .un] _ _
    rw [e1] at hll ⊢
    exact semb_ret (sem_call (sema_cons (sem_varL rfl) sema_nil) ⟨_, rfl, rfl, by omega⟩)
def pr_copies_profile_by : List Rk → Rk → Prop := fun rs r => ∃ (n : Int) (f : Prof), rs = [.d (.int n), .d f.data] ∧ r = .d (copP n f).data ∧ f.Ne ∧ f.sz ≤ 10000 ∧ CMulW n f.net ∧ CMulW (n - 1) 0 ∧ (∀ p ∈ f.s, CMulW (n - 1) p.2 ∧ CMulW n p.2) ∧ ∀ p ∈ mv f.e (0 - f.net), CMulW (n - 1) p.2 ∧ CMulW n p.2
theorem w_copies_profile_by (T : Tx K mg) : Df P w K mg base CX0 3 "copies_profile_by" p_copies_profile_by (spF K pr_copies_profile_by) := by
  have g_copies_start := w_copies_start (P := P) (w := w) (base := base) T
  have g_moved := w_moved (P := P) (w := w) (base := base) T
  refine df_sem (N := n_copies_profile_by) (k := 2) T.f_copies_profile_by (fun _ _ _ _ _ _ us hl => match us, hl with | [_, _], _ => rfl) sc_copies_profile_by (fun rs r h => by obtain ⟨n, f, rfl, _⟩ := h; rfl) ?_
  intro rs r h fa cdv A outer sh H E hr
  refine ⟨_, (pss_cons (ps_if (pt_cmpR op_eq (pv 0) pe_int (nomark _)) (pss_one (ps_ret (pe_gref rfl T.c_EMPTY_basic))) pss_nil)
    (pss_cons (ps_asg (pv 1) (pg_tup rfl (pgs_cons (pg_name (i := 2) sc_copies_profile_by.nd rfl (Or.inl rfl)) (pgs_cons (pg_name (i := 3) sc_copies_profile_by.nd rfl (Or.inl rfl)) (pgs_cons (pg_name (i := 4) sc_copies_profile_by.nd rfl (Or.inl rfl)) (pgs_cons (pg_name (i := 5) sc_copies_profile_by.nd rfl (Or.inl rfl)) pgs_nil))))))
    (pss_cons (ps_set (i := 6) sc_copies_profile_by.nd rfl (Or.inl rfl) (pe_op op_mulW (pv 0) (pv 2)))
    (pss_cons (ps_set (i := 7) sc_copies_profile_by.nd rfl (Or.inl rfl) (pe_df g_copies_start hr (by omega) pass0 rfl (pa_cons (pv 0) (pa_cons (pv 4) pa_nil))))
    (pss_cons (ps_set (i := 8) sc_copies_profile_by.nd rfl (Or.inl rfl) (pe_df g_moved hr (by omega) pass0 rfl (pa_cons (pe_df g_copies_start hr (by omega) pass0 rfl (pa_cons (pv 0) (pa_cons (pe_df g_moved hr (by omega) pass0 rfl (pa_cons (pv 5) (pa_cons (pe_op op_sub pe_int (pv 2)) pa_nil))) pa_nil))) (pa_cons (pv 6) pa_nil))))
    (pss_cons (ps_set (i := 9) sc_copies_profile_by.nd rfl (Or.inl rfl) (pe_op op_add (pv 3) (pe_op op_mulW (pe_op op_sub (pv 0) pe_int) (pe_ix ix_tup (pe_ix ix_tup (pv 4) (pe_un un_neg pe_int) (fun _ _ => rfl)) pe_int (fun _ _ => rfl)))))
    (pss_one (ps_ret (pe_tup (pa_cons (pv 6) (pa_cons (pe_callB (cr_max3 rfl) rfl T.b_max (by decide +kernel) (pa_cons (pv 9) (pa_cons (pe_ix ix_tup (pe_ix ix_tup (pv 7) (pe_un un_neg pe_int) (fun _ _ => rfl)) pe_int (fun _ _ => rfl)) (pa_cons (pe_ix ix_tup (pe_ix ix_tup (pv 8) (pe_un un_neg pe_int) (fun _ _ => rfl)) pe_int (fun _ _ => rfl)) pa_nil)))) (pa_cons (pv 7) (pa_cons (pv 8) pa_nil))))))))))))), ?_⟩
  obtain ⟨n, f, rfl, rfl, nf, hz, m1, m0, m2, m3⟩ := h
  refine ⟨.rt (.d (copP n f).data), ?_, .inl rfl⟩
  unfold Prof.sz at hz
  by_cases h0 : n = 0
  · have e : copP n f = .empty := by unfold copP; rw [if_pos h0]
    rw [e]
    exact semb_seqR (semb_if (b := true) (semt_T (sem_op (sem_var rfl) sem_int (rvd_eqI' (decide_eq_true h0)))) (fun _ => semb_ret (sem_k T.k_EMPTY_basic)) fun z => by cases z)
  · have e : (copP n f).data = .tuple [.int (n * f.net), .int (imax3 (f.peak + (n - 1) * (lastP f.s).2) (lastP (copS n f.s)).1 (lastP (copE n f)).1), prsD (copS n f.s), prsD (copE n f)] := by unfold copP; rw [if_neg h0]; rfl
    rw [e]
    have cl := copS_len n (mv f.e (0 - f.net))
    rw [mv_len] at cl
    refine semb_seq (semb_if (b := false) (semt_T (sem_op (sem_var rfl) sem_int (rvd_eqI' (decide_eq_false h0)))) (fun z => by cases z) fun _ => semb_next) ?_
    refine semb_seq (semb_asg (sem_var rfl) (semg_tup (xs := [.int f.net, .int f.peak, prsD f.s, prsD f.e]) rfl (semgs_cons semg_name (semgs_cons semg_name (semgs_cons semg_name (semgs_cons semg_name semgs_nil)))))) ?_
    refine semb_seq (semb_set (sem_op (sem_var rfl) (sem_var rfl) (rvd_mul m1))) ?_
    refine semb_seq (semb_set (sem_call (sema_cons (sem_var rfl) (sema_cons (sem_var rfl) sema_nil)) ⟨n, f.s, rfl, rfl, by omega, m0, m2⟩)) ?_
    refine semb_seq (semb_set (r := .d (prsD (copE n f))) (sem_call (sema_cons (sem_call (sema_cons (sem_var rfl) (sema_cons (sem_call (sema_cons (sem_var rfl) (sema_cons (sem_op sem_int (sem_var rfl) rvd_sub) sema_nil)) ⟨f.e, 0 - f.net, rfl, rfl, by omega⟩) sema_nil)) ⟨n, mv f.e (0 - f.net), rfl, rfl, by rw [mv_len]; omega, m0, m3⟩) (sema_cons (sem_var rfl) sema_nil)) ⟨copS n (mv f.e (0 - f.net)), n * f.net, rfl, rfl, by omega⟩)) ?_
    refine semb_seq (semb_set (sem_op (sem_var rfl) (sem_op (sem_op (sem_var rfl) sem_int rvd_sub) (sem_last2 (sem_var rfl) nf.s) (rvd_mul (m2 _ (lastP_mem nf.s)).1)) rvd_add)) ?_
    exact semb_ret (sem_tup (ds := [_, _, _, _]) (sema_cons (sem_var rfl) (sema_cons (sem_cb (sema_cons (sem_var rfl) (sema_cons (sem_last1 (sem_var rfl) (copS_ne nf.s)) (sema_cons (sem_last1 (sem_var rfl) (mv_ne (copS_ne (mv_ne nf.e)))) sema_nil))) cvd_max3) (sema_cons (sem_var rfl) (sema_cons (sem_var rfl) sema_nil)))) (by simp))
end
end RP
end
section
set_option maxHeartbeats 4000000
namespace RP
open PySem PySem.Spec PyProof.Rows L2
section
variable {P : Program} {w : World} {K : PySem.W.Frag} {mg : Str → Option Value} {base : Heap} {Γ : List Sl} {te ta : TE} {E : XK}
def vB : Nat := 4 ^ 14 * (maxN * maxN)
theorem ab_lt {i : Int} (h : Ab (2 * vB) i) : i.natAbs < 2 ^ 1000 := lt1000 (n := 2 * vB) (by unfold Ab at h; omega) (by decide +kernel)
theorem cm0 {n : Nat} (hn : n ≤ maxN) {i : Int} (h : Ab (2 * vB) i) : CMulW (n : Int) i := mulW_ok (lt1000 (n := maxN) (by omega) (by decide +kernel)) (ab_lt h)
theorem cm1 {n : Nat} (hn : n ≤ maxN) {i : Int} (h : Ab (2 * vB) i) : CMulW ((n : Int) - 1) i := mulW_ok (lt1000 (n := maxN + 1) (by omega) (by decide +kernel)) (ab_lt h)
theorem prof_vB {j : Job} (h : j.Good) (hd : j.depth ≤ 14) : j.prof.In vB := by
  refine (prof_in 14 j (good_sv j h) hd).mono ?_
  unfold bq vB
  exact Nat.mul_le_mul_left _ (Nat.mul_le_mul_right _ (good_steps h))
theorem dbl {i : Int} (h : Ab vB i) : Ab (2 * vB) i := h.mono (by omega)
def pr_profile_by (L : Nat) : List Rk → Rk → Prop := fun rs r => ∃ j : Job, rs = [.d j.data] ∧ r = .d j.prof.data ∧ j.depth ≤ L ∧ j.depth ≤ 14 ∧ j.nodes ≤ 1000 ∧ j.Good
theorem b_profile_by : ∀ (kV doc pm : Value) (an : Option Addr) (cdv ct : Value) (us : List Value), us.length = p_profile_by.length → bindArgs (PySem.W.fnOf "profile_by" "profile_by" (defArgs s_profile_by) (defBody s_profile_by) (defScope s_profile_by) .none kV doc pm an cdv ct) ⟨us, []⟩ = pure (p_profile_by.zip us) :=
  fun _ _ _ _ _ _ us hl => match us, hl with | [_], _ => rfl
theorem st_int (b : Bool) {j : Job} (h : Sem K Γ te (.d j.data)) (e : (!j.nodeB) = b) : SemT K Γ (tB (tCall (spF K pr_is_integer) [] E (tCons te tNil))) b := by
  subst e
  cases j with
  | step v => exact semt_B (sem_call (sema_cons h sema_nil) ⟨_, rfl, .inl ⟨_, rfl, rfl⟩⟩)
  | grp p js => exact semt_B (sem_call (sema_cons h sema_nil) ⟨_, rfl, .inr ⟨⟨_, rfl⟩, rfl⟩⟩)
  | mul c n k => exact semt_B (sem_call (sema_cons h sema_nil) ⟨_, rfl, .inr ⟨⟨_, rfl⟩, rfl⟩⟩)
theorem mw_seq (c : Bool) : decide ((mw c : Str) = ("seq" : Str)) = false := by cases c <;> decide +kernel
theorem mw_par (c : Bool) : decide ((mw c : Str) = ("par" : Str)) = false := by cases c <;> decide +kernel
theorem w_profile_by (T : Tx K mg) : ∀ L : Nat, Df P w K mg base CX0 (L + 5) "profile_by" p_profile_by (spF K (pr_profile_by L))
  | 0 => df_none T.f_profile_by b_profile_by fun rs r h => by
    obtain ⟨j, _, _, h1, _⟩ := h
    have hd1 := depth_pos j
    omega
  | L + 1 => by
    have g_profile_by := w_profile_by T L
    have g_is_integer := w_is_integer (P := P) (w := w) (base := base) T
    have g_step_profile_by := w_step_profile_by (P := P) (w := w) (base := base) T
    have g_seq_profiles_by := w_seq_profiles_by (P := P) (w := w) (base := base) T
    have g_par_profiles_by := w_par_profiles_by (P := P) (w := w) (base := base) T
    have g_copies_profile_by := w_copies_profile_by (P := P) (w := w) (base := base) T
    have g_repeat_profile_by := w_repeat_profile_by (P := P) (w := w) (base := base) T
    refine df_sem (N := n_profile_by) (k := L + 5) T.f_profile_by b_profile_by sc_profile_by (fun rs r h => by obtain ⟨j, rfl, _⟩ := h; rfl) ?_
    intro rs r h f cdv A outer s H E hr
    refine ⟨_, (pss_cons (ps_if (pt_val (pe_df g_is_integer hr (by omega) pass0 rfl (pa_cons (pv 0) pa_nil))) (pss_one (ps_ret (pe_df g_step_profile_by hr (by omega) pass0 rfl (pa_cons (pv 0) pa_nil)))) pss_nil)
    (pss_cons (ps_if (pt_cmpR op_eq (pe_ix ix_tup (pv 0) pe_int (fun _ _ => rfl)) pe_str (nomark _)) (pss_one (ps_ret (pe_df g_seq_profiles_by hr (by omega) pass0 rfl (pa_cons (pe_lc (own := [("part", 4)]) (g := (gName 4)) (tt := tYes) rfl sc_profile_by.nd (pi_tup (pe_ix ix_tup (pv 0) pe_int (fun _ _ => rfl))) (blkOk_by (own := [("part", 4)]) (N := n_profile_by) (sc := defScope s_profile_by) (by decide +kernel)) (fun _ _ _ _ _ => (pg_name (i := 4) sc_profile_by.nd rfl (Or.inl rfl))) (fun _ _ _ _ _ => pts_nil) (fun _ _ _ _ _ => (pe_df g_profile_by hr (by omega) pass0 rfl (pa_cons (pv 4) pa_nil)))) pa_nil)))) pss_nil)
    (pss_cons (ps_if (pt_cmpR op_eq (pe_ix ix_tup (pv 0) pe_int (fun _ _ => rfl)) pe_str (nomark _)) (pss_one (ps_ret (pe_df g_par_profiles_by hr (by omega) pass0 rfl (pa_cons (pe_lc (own := [("part", 4)]) (g := (gName 4)) (tt := tYes) rfl sc_profile_by.nd (pi_tup (pe_ix ix_tup (pv 0) pe_int (fun _ _ => rfl))) (blkOk_by (own := [("part", 4)]) (N := n_profile_by) (sc := defScope s_profile_by) (by decide +kernel)) (fun _ _ _ _ _ => (pg_name (i := 4) sc_profile_by.nd rfl (Or.inl rfl))) (fun _ _ _ _ _ => pts_nil) (fun _ _ _ _ _ => (pe_df g_profile_by hr (by omega) pass0 rfl (pa_cons (pv 4) pa_nil)))) pa_nil)))) pss_nil)
    (pss_cons (ps_asg (pv 0) (pg_tup rfl (pgs_cons (pg_name (i := 1) sc_profile_by.nd rfl (Or.inl rfl)) (pgs_cons (pg_name (i := 2) sc_profile_by.nd rfl (Or.inl rfl)) (pgs_cons (pg_name (i := 3) sc_profile_by.nd rfl (Or.inl rfl)) pgs_nil)))))
    (pss_cons (ps_if (pt_cmpR op_eq (pv 1) pe_str (nomark _)) (pss_one (ps_ret (pe_df g_copies_profile_by hr (by omega) pass0 rfl (pa_cons (pv 2) (pa_cons (pe_df g_profile_by hr (by omega) pass0 rfl (pa_cons (pv 3) pa_nil)) pa_nil))))) pss_nil)
    (pss_one (ps_ret (pe_df g_repeat_profile_by hr (by omega) pass0 rfl (pa_cons (pv 2) (pa_cons (pe_df g_profile_by hr (by omega) pass0 rfl (pa_cons (pv 3) pa_nil)) pa_nil)))))))))), ?_⟩
    obtain ⟨j, rfl, rfl, hL, h14, hn, hg⟩ := h
    refine ⟨.rt (.d j.prof.data), ?_, .inl rfl⟩
    cases j with
    | step v => exact semb_seqR (semb_if (b := true) (st_int (j := .step v) true (sem_var rfl) rfl) (fun _ => semb_ret (sem_call (sema_cons (sem_var rfl) sema_nil) ⟨v, rfl, by rw [Job.prof]⟩)) fun z => by cases z)
    | grp p js =>
      rw [Job.depth] at hL h14
      rw [Job.Good] at hg
      rw [Job.nodes] at hn
      have hlen := len_nodesL js
      have hsz := profs_sz js
      refine semb_seq (semb_if (b := false) (st_int (j := .grp p js) false (sem_var rfl) rfl) (fun z => by cases z) fun _ => semb_next) ?_
      have h3 := sem_lcM (K := K) (g := gName 4) (te := tCall (spF K (pr_profile_by L)) [] E0 (tCons (tVar 4) tNil)) (vs := [4]) js Job.data (fun j => j.prof.data) (semi_tup (Γ := [.d (Job.grp p js).data, .un, .un, .un, .un]) (te := tOp (rIxT K) (tVar 0) (tC (.int 1))) (xs := js.map Job.data) (sem_op (sem_var rfl) sem_int (rvd_ixT (by rw [← datas_map]; rfl)))).j (by omega) fun j hj => by
        have h1 := mem_depths hj
        have h2 := mem_nodesL hj
        exact ⟨_, _, semg_name, fun k hk => hk, sem_call (sema_cons (sem_var rfl) sema_nil) ⟨j, rfl, rfl, by omega, by omega, by omega, goodL_mem hg.2 hj⟩⟩
      have e : (js.map fun j => j.prof.data) = (Job.profs js).map Prof.data := by rw [profs_map, List.map_map]; rfl
      rw [e] at h3
      rw [Job.prof]
      cases p with
      | false => exact semb_seqR (semb_if (b := true) (semt_T (sem_op (sem_op (sem_var rfl) sem_int (rvd_ixT rfl)) sem_str (rvd_eqS' (gw_seq false)))) (fun _ => semb_ret (sem_callL h3 ⟨_, rfl, rfl, profs_ne js, by omega⟩)) fun z => by cases z)
      | true =>
        refine semb_seq (semb_if (b := false) (semt_T (sem_op (sem_op (sem_var rfl) sem_int (rvd_ixT rfl)) sem_str (rvd_eqS' (gw_seq true)))) (fun z => by cases z) fun _ => semb_next) ?_
        exact semb_seqR (semb_if (b := true) (semt_T (sem_op (sem_op (sem_var rfl) sem_int (rvd_ixT rfl)) sem_str (rvd_eqS' (gw_par true)))) (fun _ => semb_ret (sem_callL h3 ⟨_, rfl, rfl, profs_ne js, by omega⟩)) fun z => by cases z)
    | mul c n j =>
      rw [Job.depth] at hL h14
      rw [Job.Good] at hg
      rw [Job.nodes] at hn
      have hv := prof_vB hg.2.2 (by omega)
      have hsz := prof_sz j
      have z0 : Ab vB (0 - j.prof.net) := by
        have := hv.net
        unfold Ab at *
        omega
      refine semb_seq (semb_if (b := false) (st_int (j := .mul c n j) false (sem_var rfl) rfl) (fun z => by cases z) fun _ => semb_next) ?_
      refine semb_seq (semb_if (b := false) (semt_T (sem_op (sem_op (sem_var rfl) sem_int (rvd_ixT rfl)) sem_str (rvd_eqS' (mw_seq c)))) (fun z => by cases z) fun _ => semb_next) ?_
      refine semb_seq (semb_if (b := false) (semt_T (sem_op (sem_op (sem_var rfl) sem_int (rvd_ixT rfl)) sem_str (rvd_eqS' (mw_par c)))) (fun z => by cases z) fun _ => semb_next) ?_
      refine semb_seq (semb_asg (sem_var rfl) (semg_tup (xs := [.str (mw c), .int (n : Int), j.data]) rfl (semgs_cons semg_name (semgs_cons semg_name (semgs_cons semg_name semgs_nil))))) ?_
      have inner : ∀ {Γ : List Sl}, Γ[3]? = some (.d j.data) → Sem K Γ (tCall (spF K (pr_profile_by L)) [] E0 (tCons (tVar 3) tNil)) (.d j.prof.data) := fun {Γ} g3 => sem_call (sema_cons (sem_var g3) sema_nil) ⟨j, rfl, rfl, by omega, by omega, by omega, hg.2.2⟩
      rw [Job.prof]
      cases c with
      | true =>
        exact semb_seqR (semb_if (b := true) (semt_T (sem_op (sem_var rfl) sem_str (rvd_eqS' (copies_mw true)))) (fun _ => semb_ret (sem_call (sema_cons (sem_var rfl) (sema_cons (inner rfl) sema_nil)) ⟨(n : Int), j.prof, rfl, rfl, prof_ne j, by omega, cm0 hg.1 (dbl hv.net), cm1 hg.1 Ab.zero, fun p hp => ⟨cm1 hg.1 (dbl (hv.s p hp).2), cm0 hg.1 (dbl (hv.s p hp).2)⟩, fun p hp => by
          have := (hv.e.mv z0) p hp
          have h2 : Ab (2 * vB) p.2 := this.2.mono (by omega)
          exact ⟨cm1 hg.1 h2, cm0 hg.1 h2⟩⟩)) fun z => by cases z)
      | false =>
        refine semb_seq (semb_if (b := false) (semt_T (sem_op (sem_var rfl) sem_str (rvd_eqS' (copies_mw false)))) (fun z => by cases z) fun _ => semb_next) ?_
        exact semb_ret (sem_call (sema_cons (sem_var rfl) (sema_cons (inner rfl) sema_nil)) ⟨(n : Int), j.prof, rfl, rfl, prof_ne j, by omega, cm0 hg.1 (dbl hv.net), cm1 hg.1 (dbl hv.net), cm1 hg.1 (dbl z0)⟩)
def pr_least_peak : List Rk → Rk → Prop := fun rs r => ∃ j : Job, rs = [.d j.data] ∧ r = .d (.int j.prof.peak) ∧ j.Ok 13
theorem w_least_peak (T : Tx K mg) : Df P w K mg base CX0 19 "least_peak" p_least_peak (spF K pr_least_peak) := by
  have g_profile_by := w_profile_by (P := P) (w := w) (base := base) T 13
  refine df_sem (N := n_least_peak) (k := 18) T.f_least_peak (fun _ _ _ _ _ _ us hl => match us, hl with | [_], _ => rfl) sc_least_peak (fun rs r h => by obtain ⟨j, rfl, _⟩ := h; rfl) ?_
  intro rs r h f cdv A outer s H E hr
  refine ⟨_, (pss_one (ps_ret (pe_ix ix_tup (pe_df g_profile_by hr (by omega) pass0 rfl (pa_cons (pv 0) pa_nil)) pe_int (fun _ _ => rfl)))), ?_⟩
  obtain ⟨j, rfl, rfl, ok⟩ := h
  have h1 := ok.depth
  have h2 := ok.nodes
  exact ⟨.rt (.d (.int j.prof.peak)), semb_ret (sem_op (sem_call (sema_cons (sem_var rfl) sema_nil) ⟨j, rfl, rfl, h1, by omega, by omega, ok.good⟩) sem_int (rvd_ixT (ds := [.int j.prof.net, .int j.prof.peak, prsD j.prof.s, prsD j.prof.e]) rfl)), .inl rfl⟩
end
end RP
end
section
set_option maxHeartbeats 4000000
namespace RP
open PySem PySem.W PySem.Calls PyProof.Rows PySem.HandSPX
section
open Builtin Builtin.ObjectAttr
variable {prog : Program} {w : World} {A : Around} {E : Value → Shared → Prop} {R : Result → Shared → Prop} {hp : Heap} {g : Array GenState} {d : Drawn} {t : Nat} {os : OsState}
theorem re_pass (self : Value) (C : Addr) : refuseLoop self "__setattr__" (.ref C :: reTail) = pure () := by
  rw [refuseLoop_ref]
  exact F.store_RuntimeError.passes self
theorem re_osa {K : W.Frag} {name : Str} {tk : Tok} {v : Value} {x C : Addr} {fv : Array Value} {cd : ClassData}
    (X : K.In hp) (hx : hp.get? x = some { cls := .ref C, data := .fields fv }) (hcd : W.clsIn K C = some cd) (hm : cd.mro = .ref C :: reTail) (hh : cd.hasDict = true) (ha : W.findIn K (.ref C) name = some none)
    (hq : ∀ h' tk' dx, (∀ b o, b ≠ x → hp.get? b = some o → h'.get? b = some o) → hp.objs.size ≤ dx → dx ≠ x → h'.get? x = some { cls := .ref C, dict := some dx, data := .fields fv } →
      h'.Ns1 dx (fun y => if y = name then some v else none) → R (.ok (.ret .none)) ⟨h', g, d, tk', os⟩) :
    codeAny (model prog w) A (.call (.builtin "object.__setattr__") ⟨[.ref x, .str name tk, v], []⟩) R ⟨hp, g, d, t, os⟩ := by
  have I : W.InstAt hp x { cls := .ref C, data := .fields fv } C none := ⟨hx, rfl, rfl, trivial⟩
  have SF := F.store_object
  have hob : cd.mro.contains (.type "object") = true := by
    rw [hm, List.contains_cons]
    exact (by decide +kernel : reTail.contains (.type "object") = true) ▸ Bool.or_true _
  have ne : cd.mro.isEmpty = false := by rw [hm]; rfl
  have hxs : x ≠ hp.objs.size := Nat.ne_of_lt (Heap.lt_size hx)
  have sub : W.Looks (model prog w) hp (isInstance (.ref x) (.type "object")) true := I.type.andThen (W.looks_mroIn X (by unfold W.mroIn; rw [hcd, Option.bind_some, if_neg (by rw [ne]; decide), hob]))
  refine codeAny_call_builtin SF.slot.plain SF.entry (@W.check_slot (model prog w) _ _ ⟨hp, g, d, t, os⟩ "object.__setattr__" "object" "__setattr__" (.ref x) [.str name tk, v] [] _ SF.kind SF.split sub (SF.args (.ref x) (.str name tk) v) ?_)
  have hmr : W.Looks (model prog w) hp (mroOf (.ref C)) cd.mro := (W.looks_clsIn X hcd).andThen .now
  have L3 : W.Looks (model prog w) hp (storeTaker? none) none := .now
  have hcls : W.Looks (model prog w) hp (classData C) cd := W.looks_clsIn X hcd
  rw [W.osa_eq, refuse_eq]
  refine wpAny_bind (wpAny_bind (I.type.at (wpAny_bind (hmr.at ?_))))
  rw [hm, re_pass]
  refine wpAny_pure (wpAny_bind (I.type.at (wpAny_bind ((W.looks_findIn X ha).at (wpAny_bind (L3.at ?_))))))
  show wpAny _ _ (storeInOwnDict (.ref x) (.ref C) (.str name tk) name v false) _ _ _
  obtain ⟨nm, bs, mro, ns, qn, hd, sn, sb, ab, col, del⟩ := cd
  dsimp only at hh
  subst hh
  unfold storeInOwnDict ownDictForStores
  repeat (first | with_reducible refine HandSPX.store_in_new ?_ ?_ | with_reducible refine wpAny_loadPart_at hx ?_ | with_reducible refine hcls.at ?_ | wp_step)
  · exact ⟨_, #[], _, (Heap.get?_update_ne _ _ _ _ hxs.symm).trans (Heap.get?_push_at rfl rfl), rfl, fun e he => absurd he (by simp), fun _ => rfl⟩
  · intro h' tk' hn' hs
    have hx₁ : (hp.push { cls := .type "dict", data := .dict #[] }).get? x = some { cls := .ref C, data := .fields fv } := Heap.get?_push_of_some _ hx
    refine hq h' tk' hp.objs.size (fun b o hb ho => ?_) (Nat.le_refl _) hxs.symm ?_ hn'
    · exact (hs.2 b (Nat.ne_of_lt (Heap.lt_size ho))).trans ((Heap.get?_update_ne _ _ _ _ hb).trans (Heap.get?_push_of_some _ ho))
    · exact (hs.2 x hxs).trans (Heap.get?_update_self _ hx₁ rfl)
theorem typ_RE : typeOf (.type "RuntimeError") = pure (.type "type") := by kernel_rfl
end
end RP
namespace RP
open PySem PySem.Spec PyProof.Rows L2
/-- what the written part says of the class -/
structure ReC (K : PySem.W.Frag) (C : Addr) : Prop where
  cls : ∃ nm q N bs sn sub ab col dd k0 k1 k2 k3 k5, K.lookup C = some (excClassObj nm q C N bs reTail true sn sub ab col dd k0 k1 k2 k3 k5 "RuntimeError.__new__")
  sa : PySem.W.findIn K (.ref C) "__setattr__" = some (some (.builtin "object.__setattr__"))
  exC : PySem.W.subIn K (.ref C) (.type "BaseException") = some true
  tyC : PySem.W.typeIn K (.ref C) = some (.type "type")
  kC : PySem.W.keepIn K (.ref C) = true
section
variable {X : Cx} {pins : List (Addr × Obj)} {σ : L2.St} {H : Hp} {s : Shared} {a C dx : Addr} {f : Str} {y : V} {u : Value} {fs : List (Str × V)} {Q : Unit → Shared → Prop} {E : Value → Shared → Prop} {A : Around}
/-- self.f = y, the first one -/
theorem rst_new (T : ReC X.K C) (I : L2.Inv X pins σ H s) (e : H a = some (exo a C none)) (hno : PySem.W.findIn X.K (.ref C) f = some none) (ry : RelV y u)
    (h : ∀ dx s', H dx = none → dx ≠ a → L2.Inv X pins σ (upd (upd H dx (exd dx [(f, y)])) a (exo a C (some dx))) s' → Q () s') : wpAny (model X.prog X.w) A (setAttr (.ref a) f u) Q E s := by
  obtain ⟨nm, q, N, bs, sn, sub, ab, col, dd, k0, k1, k2, k3, k5, hC⟩ := T.cls
  have hcl : PySem.W.clsIn X.K C = some { name := nm, bases := bs, mro := .ref C :: reTail, ns := N, qualname := q, hasDict := true, slotNames := sn, subclasses := sub, abstract := ab, collection := col, hasDel := false } := by unfold PySem.W.clsIn; rw [hC] <;> rfl
  obtain ⟨t1, ho⟩ := exo_at I.hok e
  obtain ⟨hp, g, d, t, os⟩ := s
  refine PySem.W.set_plain I.kIn (ox := { cls := .ref C, dict := none, data := .fields #[.ref t1, .none, .none, .none, .bool false, .none] }) (od := none) ⟨ho, rfl, rfl, trivial⟩ T.sa ?_
  refine re_osa I.kIn ho hcl rfl rfl hno (fun h' tk' dx k dn dne hx hn => ?_)
  have hnd : H dx = none := I.hok.fresh dn
  have nd : ∀ {b : Addr} {o : Obj}, hp.get? b = some o → b ≠ dx := fun {b o} q => Nat.ne_of_lt (Nat.lt_of_lt_of_le (Heap.lt_size q) dn)
  have na : ∀ {b : Addr}, H b = none → b ≠ a := fun {b} n z => by
    rw [z, e] at n
    cases n
  have Un1 : Un X.fs [] H (upd (upd H dx (exd dx [(f, y)])) a (exo a C (some dx))) hp h' := {
    keep := fun b o q n _ _ => k b o (na n) q
    slot := fun b o q n _ _ => ⟨o.slots, k b o (na n) q⟩
    free := fun b o q n _ => by rw [upd_ne (na n), upd_ne (nd q)]; exact n
    there := fun b o q _ => by
      by_cases hb : b = a
      · exact ⟨_, by rw [hb]; exact hx⟩
      · exact ⟨o, k b o hb q⟩
    tups := fun b xs q => by rw [upd_ne (at_ne e q exo_tup), upd_ne (ne_of_none q hnd)]; exact q
    frzs := fun b o v q => by rw [upd_ne (at_ne e q exo_frz), upd_ne (ne_of_none q hnd)]; exact q
    tbls := fun b ps q => ⟨#[], by rw [upd_ne (at_ne e q exo_tbl), upd_ne (ne_of_none q hnd), q]; simp⟩ }
  refine h dx _ hnd dne (I.un (t' := tk') Un1 fun b o q => ?_)
  by_cases hb : b = a
  · subst hb
    rw [upd_same] at q
    cases q
    exact exo_ok hx
  · rw [upd_ne hb] at q
    by_cases hd : b = dx
    · subst hd
      rw [upd_same] at q
      cases q
      exact exd_ok hn (relO_put (fs := []) ry fun g => True.intro)
    · rw [upd_ne hd] at q
      exact (I.hok b o q).stay (fun c v hc z => k c v (by
          rcases hc with hc | hc
          · rw [hc]
            exact hb
          · exact at_ne e hc exo_own) z)
        (fun c hc => by rw [upd_ne (at_ne e hc exo_own), upd_ne (ne_of_none hc hnd)]; exact hc) (fun c xs hc => by rw [upd_ne (at_ne e hc exo_tup), upd_ne (ne_of_none hc hnd)]; exact hc)
theorem re_mem (Y : String) : reTail.contains (.type Y) = ([.type "RuntimeError", .type "Exception", .type "BaseException", .type "object"] : List Value).contains (.type Y) := rfl
/-- RuntimeError.__init__(self, ..) -/
theorem rinit_ok {us : List Value} {Q : Value → Shared → Prop} (T : ReC X.K C) (I : L2.Inv X pins σ H s) (e : H a = some (exo a C none)) (hl : us.length ≤ sizeLine) (h : ∀ s', L2.Inv X pins σ H s' → Q .none s') :
    wpAny (model X.prog X.w) A (call (.builtin "RuntimeError.__init__") (.ref a :: us)) Q E s := by
  obtain ⟨nm, q, N, bs, sn, sub, ab, col, dd, k0, k1, k2, k3, k5, hC⟩ := T.cls
  obtain ⟨t1, ho⟩ := exo_at I.hok e
  obtain ⟨hp, g, d, t, os⟩ := s
  refine wpAny_call (PySem.HandSPX.init_base F.excBase_RuntimeError (fun Y => re_mem Y) (I.kIn _ _ hC) ho hl fun h' t2 k hx => ?_)
  have J := I.write (t' := t) (x := a) (e := a) (o := exo a C none) (by rw [e]; exact True.intro) (.inl rfl) k ⟨_, hx⟩ (exo_ok hx)
  have eu : upd H a (exo a C none) = H := by
    funext b
    by_cases hb : b = a
    · rw [hb, upd_same, e]
    · rw [upd_ne hb]
  rw [eu] at J
  exact h _ J
end
/-- RuntimeError.__init__(self, ..) -/
def tReI (K : PySem.W.Frag) (ta : TA) : TE := fun σ H Q => ta σ H fun vs H1 => ∃ (a C : Addr) (ws : List V), vs = .ref a :: ws ∧ ws.length ≤ 1000 ∧ ReC K C ∧ H1 a = some (exo a C none) ∧ Q .non H1
/-- self.f = e -/
def tRst (K : PySem.W.Frag) (f : Str) (to te : TE) : TS := fun D σ H => te σ H fun y H1 => to σ H1 fun x H2 => ∃ a C : Addr, x = .ref a ∧ ReC K C ∧ PySem.W.findIn K (.ref C) f = some none ∧
  H2 a = some (exo a C none) ∧ ∀ dx, H2 dx = none → dx ≠ a → D.nx σ (upd (upd H2 dx (exd dx [(f, y)])) a (exo a C (some dx)))
section
variable {X : Cx} {o e : Expr} {es : List Expr} {to te : TE} {ta : TA} {f : Str} {p p' p1 p2 pos : Pos}
theorem pe_reinit {pl : PySem.Sem Bool} (hg : Gl X "RuntimeError") (hm : X.mg "RuntimeError" = none) (vV : PySem.W.findCls X.K (.type "RuntimeError") (.type "type") "__init__" = some (.val (.builtin "RuntimeError.__init__"))) (ha : PA X (e :: es) ta)
    (hc : eval (.Call (.Attribute (.Name "RuntimeError" p1) "__init__" p2) (e :: es) [] pos) X.env = (do
      let ov ← eval (.Name "RuntimeError" p1) X.env
      standAt p2.atName
      let (f, first) ← holding [ov] (getMethod ov "__init__" pl)
      callWith pos f first (backTo pos (starEach (e :: es) X.env)) (backToKw pos (keywordEach [] X.env))) := by rfl)
    (he : starEach (e :: es) X.env = (false, eval e X.env) :: starEach es X.env := by rfl) (hpl : (backTo pos (starEach es X.env)).any (·.1) = false := by rfl) :
    PE X (.Call (.Attribute (.Name "RuntimeError" p1) "__init__" p2) (e :: es) [] pos) (tReI X.K ta) := by
  refine ⟨fun pins s σ H Q I h => ?_⟩
  refine PySem.W.methodCall_KW (ld_blt I hg hm PyProof.Rows.Boot.«RuntimeError» ?_ (by decide) (by decide)) hc
  obtain ⟨m, fr⟩ := I.fr
  refine PySem.W.method_type fr I.ok.mod.kin typ_RE (by decide +kernel) vV (by decide +kernel) ?_
  show wpAny _ _ (callWith pos (Value.builtin "RuntimeError.__init__") [] (backTo pos (starEach (e :: es) X.env)) []) _ _ _
  refine PyProof.Rows.callWith_method1 (thn (ha.run pos pins _ σ H _ (I.tok _) h) fun us s1 ⟨vs, H1, I1, r1, a, C, ws, ev, hl, T, ea, q⟩ => ?_) he hpl
  subst ev
  cases r1 with
  | @cons _ u0 _ ur ra rw' =>
    obtain rfl : u0 = Value.ref a := ra
    have hlen : ur.length ≤ sizeLine := by
      rw [← Paired.length rw', sizeLine_eq]
      omega
    exact rinit_ok T I1 ea hlen fun s' J => ⟨.non, H1, J, rfl, q⟩
theorem ps_rst (ho : PE X o to) (he : PE X e te) (hs : swapsWith e (some (.Attribute o f p')) pos.line X.env = pure false := by rfl) : PS X (.Assign [.Attribute o f p'] e pos) (tRst X.K f to te) := by
  refine ⟨fun pins s σ H D I h => ?_⟩
  refine plainObj_wpAny_Assign_Attribute (thn (he.run pins s σ H _ I h) fun v s1 ⟨y, H1, I1, r1, q1⟩ => thn (ho.run pins s1 σ H1 _ I1 q1) fun u s2 ⟨x, H2, I2, r2, a, C, ex, T, hno, ea, q⟩ => ?_) hs
  subst ex
  obtain rfl : u = Value.ref a := r2
  exact rst_new T I2 ea hno r1 fun dx s' n ne J => ⟨σ, _, J, q dx n ne⟩
theorem pmk_re {CX : CXT} {x : Str} {C fI : Addr} {k : Nat} {fd : FuncData} {ps : List Str} {sp : Sp} {ds : List Value} {dvs : List V} (T : ReC X.K C) (iC : PySem.W.findIn X.K (.ref C) "__init__" = some (some (.ref fI))) (tI : PySem.W.typeIn X.K (.ref fI) = some (.type "function"))
    (F1 : FnOk X.prog X.w X.K X.mg X.base CX k fI fd ps sp) (hr : Room (k + 1) X.A) (hb : Binds X.K fd ps ds) (hd : Vals dvs ds) (hx : Passes CX X (fun _ _ _ => False)) (hg : Gl X x) (hm : X.mg x = some (.ref C)) (ha : PA X (e :: es) ta)
    (hdb : (x == ("__debug__" : Str)) = false := by decide) (he : starEach (e :: es) X.env = (false, eval e X.env) :: starEach es X.env := by rfl) (hpl : (backTo pos (starEach es X.env)).any (·.1) = false := by rfl) :
    PMk X (.Call (.Name x p) (e :: es) [] pos) (tMkO C sp dvs ta) := by
  intro pins s σ H Q I h
  obtain ⟨nm, q, N, bs, sn, sub, ab, col, dd, k0, k1, k2, k3, k5, hC⟩ := T.cls
  refine wpAny_Call_Name_kw (ld_glob I hg hm ?_ hdb)
  refine PySem.W.callWith_K (h₀ := X.base) I.ok.mod.kin T.kC (thn (ha.run pos pins s σ H _ I h) fun us s1 ⟨vs, H1, I1, r1, hz, q1⟩ => ⟨I1.kIn, ?_⟩) he hpl
  show wpAny _ _ (call (.ref C) us) _ _ _
  obtain ⟨hp, g, dr, tk, os⟩ := s1
  have hsz : hp.objs.size ≤ hp.objs.size + 1 := Nat.le_succ _
  have hn : H1 (hp.objs.size + 1) = none := I1.hok.fresh hsz
  have hq := q1 (hp.objs.size + 1) hn
  have kk : ∀ b o, hp.get? b = some o → ((hp.push (PySem.W.kdv_tup us)).push (PySem.HandSPX.excO C hp.objs.size)).get? b = some o := fun b o e => Heap.get?_push_of_some _ (Heap.get?_push_of_some _ e)
  have hget : ((hp.push (PySem.W.kdv_tup us)).push (PySem.HandSPX.excO C hp.objs.size)).get? (hp.objs.size + 1) = some (PySem.HandSPX.excO C hp.objs.size) := by heap_get
  have I2 : L2.Inv X pins σ (upd H1 (hp.objs.size + 1) (exo (hp.objs.size + 1) C none)) ⟨(hp.push (PySem.W.kdv_tup us)).push (PySem.HandSPX.excO C hp.objs.size), g, dr, tk, os⟩ :=
    I1.laid (t' := tk) (a := hp.objs.size + 1) (o := exo (hp.objs.size + 1) C none) (h' := (hp.push (PySem.W.kdv_tup us)).push (PySem.HandSPX.excO C hp.objs.size)) kk hsz (exo_ok hget)
  have r2 : Vals (V.ref (hp.objs.size + 1) :: (vs ++ dvs)) (Value.ref (hp.objs.size + 1) :: (us ++ ds)) := .cons rfl (r1.append hd)
  have hl : (Value.ref (hp.objs.size + 1) :: us ++ ds).length = ps.length := by
    have e := r2.length
    rw [F1.len _ _ _ _ hq] at e
    exact e.symm
  have hus : us.length ≤ sizeLine := by
    rw [← Paired.length r1, sizeLine_eq]
    omega
  refine wpAny_call (PySem.HandSPX.call_own F.excBase_RuntimeError (fun Y => re_mem Y) (I1.kIn _ _ hC) (PySem.W.looks_findIn I1.kIn iC) (fun self => PySem.W.bind_fn I1.kIn self tI) hus
    (codeAny_mono (F1.run _ X.stack _ _ ⟨Value.ref (hp.objs.size + 1) :: us, []⟩ (Value.ref (hp.objs.size + 1) :: (us ++ ds)) _ _ (fun _ _ _ => False) (hr.make C us []) (I2.env0.make C us []) (hb _ (Value.ref (hp.objs.size + 1) :: us) I2.kIn hl) r2 hq) fun r s' hq' => ?_))
  cases r with
  | error er => exact hx pins σ _ _ er s' I2 hq'
  | ok fl =>
    cases fl with
    | ret u =>
      obtain ⟨v, H2, os2, bare2, un2, hok2, rv, ev, d, fs, ea, ed, hd1, q2⟩ := hq'
      subst ev
      obtain ⟨h2, g2, d2, t2, os'⟩ := s'
      exact ⟨rv, mk_end (raises_own T.exC T.tyC) I1 hsz kk un2 hok2 os2 bare2 ea ed hd1 q2⟩
    | next => exact False.elim hq'
    | brk => exact False.elim hq'
    | cont => exact False.elim hq'
end
end RP
end
section
set_option maxHeartbeats 2000000
namespace RP
open PySem PySem.Spec PyProof.Rows L2
/-! ### texts in order -/
def sle (a b : Str) : Prop := ltCps b.cps.toList a.cps.toList = false
theorem sle_iff {a b : Str} : sle a b ↔ ¬ b.cps.toList < a.cps.toList := by
  unfold sle
  rw [PyProof.Rows.ltCps_eq]
  simp
theorem sle_trans {a b c : Str} (h1 : sle a b) (h2 : sle b c) : sle a c := by
  rw [sle_iff] at *
  intro h
  have q := PyProof.Rows.strKind.negTrans c.cps.toList b.cps.toList a.cps.toList (decide_eq_true h)
  rcases q with z | z
  · exact h2 (of_decide_eq_true z)
  · exact h1 (of_decide_eq_true z)
theorem sle_anti {a b : Str} (h1 : sle a b) (h2 : sle b a) : a = b := by
  rw [sle_iff] at *
  have h : a.cps.toList = b.cps.toList := List.le_antisymm (List.not_lt.mp h1) (List.not_lt.mp h2)
  cases a
  cases b
  simp only [Str.mk.injEq]
  exact Array.toList_inj.mp h
theorem rising_pw : ∀ {p : Str} {l : List Str}, risingS p l = true → (p :: l).Pairwise sle
  | p, [], _ => by simp
  | p, x :: r, h => by
    rw [risingS, Bool.and_eq_true] at h
    have ih := rising_pw h.2
    have hx : sle p x := by
      unfold sle
      simpa using h.1
    refine List.pairwise_cons.mpr ⟨fun y hy => ?_, ih⟩
    rcases List.mem_cons.mp hy with rfl | hy
    · exact hx
    · exact sle_trans hx ((List.pairwise_cons.mp ih).1 y hy)
theorem sorted_pw {l : List Str} (h : sortedS l = true) : l.Pairwise sle := by
  cases l with
  | nil => exact List.Pairwise.nil
  | cons x r => exact rising_pw h
theorem names_one : ∀ {l m : List Str}, l.Pairwise sle → m.Pairwise sle → l.Perm m → l = m
  | [], m, _, _, h => (List.Perm.eq_nil h.symm).symm
  | x :: l, [], _, _, h => absurd h.length_eq (by simp)
  | x :: l, y :: m, hl, hm, h => by
    have e : x = y := by
      rcases List.mem_cons.mp (h.mem_iff.mp List.mem_cons_self) with e | hx
      · exact e
      · rcases List.mem_cons.mp (h.mem_iff.mpr List.mem_cons_self) with e | hy
        · exact e.symm
        · exact sle_anti (List.rel_of_pairwise_cons hl hy) (List.rel_of_pairwise_cons hm hx)
    subst e
    rw [names_one (List.pairwise_cons.mp hl).2 (List.pairwise_cons.mp hm).2 h.cons_inv]
/-! ### the jobs of a keeper -/
abbrev JD := List (Str × (Job × Int))
def entD (x : Job × Int) : PyData := .tuple [x.1.data, .int x.2]
def jget (D : JD) (n : Str) : Option (Job × Int) := (D.find? fun e => decide (e.1 = n)).map (·.2)
def jput (D : JD) (n : Str) (x : Job × Int) : JD := if (D.any fun e => decide (e.1 = n)) = true then D.map (fun e => if e.1 = n then (e.1, x) else e) else D ++ [(n, x)]
def DkL (K : PySem.W.Frag) (H : Hp) : List (Key × V) → JD → Prop
  | [], [] => True
  | kv :: kvs, e :: D => kv.1 = .inr e.1 ∧ Dt K H kv.2 (entD e.2) ∧ DkL K H kvs D
  | _, _ => False
def DictAt (K : PySem.W.Frag) (D : JD) (H : Hp) (v : V) : Prop := ∃ p kvs, v = .ref p ∧ H p = some (.dK kvs) ∧ DkL K H kvs D
section
variable {K : PySem.W.Frag} {H H' : Hp} {D : JD} {v : V}
theorem TK.nl (n : NL H H') : TK H H' := fun a xs h => n a _ (by intro ys z; cases z) h
theorem DkL.keep (k : TK H H') : ∀ {kvs : List (Key × V)} {D : JD}, DkL K H kvs D → DkL K H' kvs D
  | [], [], _ => trivial
  | _ :: _, _ :: _, h => ⟨h.1, Dt.keep k h.2.1, DkL.keep k h.2.2⟩
  | [], _ :: _, h => h.elim
  | _ :: _, [], h => h.elim
theorem DkL.length : ∀ {kvs : List (Key × V)} {D : JD}, DkL K H kvs D → kvs.length = D.length
  | [], [], _ => rfl
  | _ :: _, _ :: _, h => congrArg Nat.succ (DkL.length h.2.2)
  | [], _ :: _, h => h.elim
  | _ :: _, [], h => h.elim
theorem DkL.keys : ∀ {kvs : List (Key × V)} {D : JD}, DkL K H kvs D → kvs.map (·.1) = (D.map (·.1)).map Sum.inr
  | [], [], _ => rfl
  | _ :: _, _ :: _, h => by rw [List.map_cons, List.map_cons, List.map_cons, h.1, DkL.keys h.2.2]
  | [], _ :: _, h => h.elim
  | _ :: _, [], h => h.elim
theorem DkL.get : ∀ {kvs : List (Key × V)} {D : JD} {n : Str} {x : Job × Int}, DkL K H kvs D → jget D n = some x → ∃ v, valV kvs (.inr n) = some v ∧ Dt K H v (entD x)
  | [], [], n, x, _, e => by simp [jget] at e
  | kv :: kvs, d :: D, n, x, h, e => by
    by_cases hn : d.1 = n
    · have e2 : x = d.2 := by
        unfold jget at e
        rw [List.find?_cons_of_pos (by simpa using hn)] at e
        exact (Option.some.inj e).symm
      subst e2
      exact ⟨kv.2, valV_pos (by rw [h.1, hn]), h.2.1⟩
    · have e2 : jget D n = some x := by
        unfold jget at e ⊢
        rwa [List.find?_cons_of_neg (by simpa using hn)] at e
      obtain ⟨v, h1, h2⟩ := DkL.get h.2.2 e2
      exact ⟨v, by rw [valV_neg (by rw [h.1]; exact fun z => hn (Sum.inr.inj z))]; exact h1, h2⟩
  | [], _ :: _, _, _, h, _ => h.elim
  | _ :: _, [], _, _, h, _ => h.elim
theorem DkL.none : ∀ {kvs : List (Key × V)} {D : JD} {n : Str}, DkL K H kvs D → jget D n = none → valV kvs (.inr n) = none
  | [], [], n, _, _ => rfl
  | kv :: kvs, d :: D, n, h, e => by
    by_cases hn : d.1 = n
    · exfalso
      unfold jget at e
      rw [List.find?_cons_of_pos (by simpa using hn)] at e
      cases e
    · have e2 : jget D n = .none := by
        unfold jget at e ⊢
        rwa [List.find?_cons_of_neg (by simpa using hn)] at e
      rw [valV_neg (by rw [h.1]; exact fun z => hn (Sum.inr.inj z))]
      exact DkL.none h.2.2 e2
  | [], _ :: _, _, h, _ => h.elim
  | _ :: _, [], _, h, _ => h.elim
theorem DkL.any : ∀ {kvs : List (Key × V)} {D : JD} {n : Str}, DkL K H kvs D → (kvs.any fun kv => decide (kv.1 = Sum.inr n)) = D.any fun e => decide (e.1 = n)
  | [], [], n, _ => rfl
  | kv :: kvs, d :: D, n, h => by
    rw [List.any_cons, List.any_cons, DkL.any h.2.2, h.1]
    congr 1
    by_cases e : d.1 = n
    · rw [e]
      simp
    · rw [decide_eq_false e, decide_eq_false (fun z => e (Sum.inr.inj z))]
  | [], _ :: _, _, h => h.elim
  | _ :: _, [], _, h => h.elim
theorem DkL.app : ∀ {kvs : List (Key × V)} {D : JD} {n : Str} {w : V} {x : Job × Int}, DkL K H kvs D → Dt K H w (entD x) → DkL K H (kvs ++ [(.inr n, w)]) (D ++ [(n, x)])
  | [], [], _, _, _, _, hw => ⟨rfl, hw, trivial⟩
  | _ :: _, _ :: _, _, _, _, h, hw => ⟨h.1, h.2.1, DkL.app h.2.2 hw⟩
  | [], _ :: _, _, _, _, h, _ => h.elim
  | _ :: _, [], _, _, _, h, _ => h.elim
theorem DkL.mapped {n : Str} {w : V} {x : Job × Int} (hw : Dt K H w (entD x)) : ∀ {kvs : List (Key × V)} {D : JD}, DkL K H kvs D → DkL K H (kvs.map fun kv => if kv.1 = .inr n then (kv.1, w) else kv) (D.map fun e => if e.1 = n then (e.1, x) else e)
  | [], [], _ => trivial
  | kv :: kvs, d :: D, h => by
    rw [List.map_cons, List.map_cons]
    by_cases e : d.1 = n
    · rw [if_pos (by rw [h.1, e]), if_pos e]
      exact ⟨h.1, hw, DkL.mapped hw h.2.2⟩
    · rw [if_neg (by rw [h.1]; exact fun z => e (Sum.inr.inj z)), if_neg e]
      exact ⟨h.1, h.2.1, DkL.mapped hw h.2.2⟩
  | [], _ :: _, h => h.elim
  | _ :: _, [], h => h.elim
theorem DkL.put {kvs : List (Key × V)} {n : Str} {w : V} {x : Job × Int} (h : DkL K H kvs D) (hw : Dt K H w (entD x)) : DkL K H (putK kvs (.inr n) w) (jput D n x) := by
  unfold putK jput
  rw [DkL.any h]
  split
  · exact DkL.mapped hw h
  · exact DkL.app h hw
theorem dictAt_nl (n : NL H H') (h : DictAt K D H v) : DictAt K D H' v := by
  obtain ⟨p, kvs, e, h1, h2⟩ := h
  exact ⟨p, kvs, e, n p _ (by intro xs z; cases z) h1, DkL.keep (TK.nl n) h2⟩
theorem dictAt_fst (h : DictAt K D H v) : Fst (DictAt K D) H v := fun _ n => dictAt_nl n h
end
section
variable {K : PySem.W.Frag} {Γ : List Sl} {te td ty : TE} {D : JD} {n : Str} {x : Job × Int}
/-- d[name] -/
theorem sem_dget (hd : Sem K Γ td (.g (DictAt K D))) (hn : Sem K Γ ty (.d (.str n))) (e : jget D n = some x) : Sem K Γ (tDGet td ty) (.d (entD x)) := fun H0 σ H Q rp q =>
  hd H0 σ H _ rp fun v H1 e1 a1 => hn H0 σ H1 _ (rp.mono e1) fun w H2 e2 a2 => by
    obtain ⟨p, kvs, ev, h1, h2⟩ := (Fst.mono (NL.of e2) a1).now
    obtain ⟨u, h3, h4⟩ := h2.get e
    have ew := Dt.isStr a2
    subst ew
    exact ⟨p, u, ev, .inl ⟨kvs, .inr n, .inl h1, rfl, h3.symm⟩, q u H2 (e1.trans e2) h4⟩
theorem sem_dnotin (hd : Sem K Γ td (.g (DictAt K D))) (hn : Sem K Γ ty (.d (.str n))) (b : Bool) (e : (jget D n).isSome = !b) : Sem K Γ (tDNotIn ty td) (.d (.bool b)) := fun H0 σ H Q rp q =>
  hn H0 σ H _ rp fun w H1 e1 a1 => hd H0 σ H1 _ (rp.mono e1) fun v H2 e2 a2 => by
    obtain ⟨p, kvs, ev, h1, h2⟩ := a2.now
    have ew := Dt.isStr a1
    subst ew
    cases hj : jget D n with
    | none =>
      rw [hj] at e
      have eb : b = true := by simpa using e.symm
      subst eb
      exact ⟨p, none, ev, .inl ⟨kvs, .inr n, .inl h1, rfl, (h2.none hj).symm⟩, q _ H2 (e1.trans e2) (.bl _)⟩
    | some x =>
      rw [hj] at e
      have eb : b = false := by simpa using e.symm
      subst eb
      obtain ⟨u, h3, h4⟩ := h2.get hj
      exact ⟨p, some u, ev, .inl ⟨kvs, .inr n, .inl h1, rfl, h3.symm⟩, q _ H2 (e1.trans e2) (.bl _)⟩
def sortedN (D : JD) : Prop := (D.map (·.1)).Pairwise sle
theorem dtl_strs {H : Hp} : ∀ ys : List Str, DtL K H (ys.map V.str) (ys.map PyData.str)
  | [] => .nil
  | y :: ys => .cons (.str y) (dtl_strs ys)
/-- sorted(d), its keys in order already -/
theorem cvd_sortedD (h : sortedN D) (hl : D.length < 64) : CvD K (fun xs H Q => ∃ (a : Addr) (kvs : List (Key × V)) (ks : List Str), xs = [.ref a] ∧ Rd H a (.dK kvs) ∧ kvs.map (·.1) = ks.map Sum.inr ∧ ks.length < 64 ∧
    ∀ ys p, ys.Perm ks → sortedS ys = true → H p = none → Q (.ref p) (upd H p (.lst (ys.map V.str)))) [.g (DictAt K D)] (.l ((D.map (·.1)).map PyData.str)) := fun H vs Q a q => by
  match vs, a with
  | [v], ⟨h1, _⟩ =>
    obtain ⟨p, kvs, rfl, h2, h3⟩ := h1.now
    refine ⟨p, kvs, D.map (·.1), rfl, .inl h2, h3.keys, by rw [List.length_map]; exact hl, fun ys c hp hs hc => ?_⟩
    have e := names_one (sorted_pw hs) h hp
    rw [e]
    exact q _ _ (same_new hc) ⟨c, _, rfl, hc, upd_same, dtl_strs _⟩
end
end RP
end
section
set_option maxHeartbeats 4000000
namespace RP
open PySem PySem.Spec PyProof.Rows L2
section
variable {K : PySem.W.Frag} {Γ : List Sl} {te td ty tv : TE} {D : JD} {n : Str} {x : Job × Int}
theorem replicate_wipe (k : Nat) (vs : List Nat) : wipeS (List.replicate k Sl.un) vs = List.replicate k Sl.un := by
  apply List.ext_getElem?
  intro i
  rw [wipeS_at]
  split
  · rename_i h
    rw [List.length_replicate] at h
    rw [List.getElem?_replicate, if_pos h.2]
  · rfl
/-- [e for .. in d.values()], the dict locked meanwhile -/
theorem sem_lcVals {i : Nat} {g : TG} {vs : List Nat} (f : Str × (Job × Int) → PyData) (hi : Γ[i]? = some (.g (DictAt K D))) (hz : D.length ≤ 100000)
    (hs : ∀ e, e ∈ D → ∃ Γ1 js, SemG K g (entD e.2) (List.replicate Γ.length .un) Γ1 js ∧ (∀ j ∈ js, j ∈ vs) ∧ Sem K Γ1 te (.d (f e))) :
    Sem K Γ (tLockE (tLc (iVals (tVar i)) g tYes te vs)) (.l (D.map f)) := fun H0 σ H Q rp q => by
  obtain ⟨v, h1, h2⟩ := rp.at_ i _ hi (by intro z; cases z)
  obtain ⟨p, kvs, ev, hp, hk⟩ := Fst.now h2
  refine ⟨p, .dK kvs, hp, trivial, fun od => ?_⟩
  refine ⟨v, h1, p, od, kvs, ev, upd_same, fun L hL => ?_⟩
  have hLp : L ≠ p := fun z => by
    rw [z, upd_same] at hL
    cases hL
  have hHL : H L = none := by
    rw [upd_ne hLp] at hL
    exact hL
  have tk0 : TK H (upd H p (.frz od (.dK kvs))) := TK.upd (fun xs z => by rw [hp] at z; cases z)
  have w := walk_values (d := p) (o := od) (kvs := kvs)
  refine lc_it w (fun k G => Same (upd H p (.frz od (.dK kvs))) G ∧ ∃ acc, G L = some (.lst acc) ∧ DtL K G acc ((D.take k).map f)) ⟨same_new hL, [], upd_same, by rw [List.take_zero]; exact .nil⟩ (fun k G _ s => s.1 _ _ upd_same) (fun k u G G' hk' s y => ?_) (fun G s => ?_)
  · obtain ⟨sm, acc, hacc, hdl⟩ := s
    obtain ⟨rfl, ky, hy⟩ := y
    have key : ∀ {kvs : List (Key × V)} {D : JD} {k : Nat}, DkL K H kvs D → kvs[k]? = some (ky, u) → ∃ e, D[k]? = some e ∧ Dt K H u (entD e.2) := by
      intro kvs
      induction kvs with
      | nil => intro D k _ h; simp at h
      | cons kv kvs ih =>
        intro D k hk h
        match D, hk with
        | d :: D, hk =>
          cases k with
          | zero =>
            simp at h
            exact ⟨d, rfl, by have := hk.2.1; rw [h] at this; exact this⟩
          | succ k =>
            obtain ⟨e, a, b⟩ := ih (k := k) hk.2.2 (by simpa using h)
            exact ⟨e, by simpa using a, b⟩
    obtain ⟨e, he, hd⟩ := key hk hy
    have hmem : e ∈ D := List.mem_of_getElem? he
    obtain ⟨Γ1, js, hg, hjs, hte⟩ := hs e hmem
    have rpw : Rp K G' (List.replicate Γ.length .un) (wipe σ vs) G' := by
      refine ⟨Same.refl _, by rw [wipe_length, List.length_replicate]; exact rp.len, fun j s hj n => ?_, fun a b s u _ ha hb ho _ => ?_⟩
      · rw [List.getElem?_replicate] at hj
        split at hj
        · cases hj
          exact absurd rfl n
        · cases hj
      · rw [List.getElem?_replicate] at ha
        split at ha
        · cases ha
          cases ho
        · cases ha
    have htk : (D.take (k + 1)).map f = (D.take k).map f ++ [f e] := by
      rw [List.take_add_one, he, List.map_append]
      rfl
    refine hg G' (wipe σ vs) G' u _ rpw (Dt.keep (tk0.trans (TK.of sm)) hd) fun σ2 rp2 dif => ⟨wipe_dif dif hjs, ?_⟩
    have yes : SemT K Γ1 tYes true := fun _ _ G _ _ q => q G (Same.refl G)
    refine yes G' σ2 G' _ rp2 fun G3 e3 => iteT ?_
    refine hte G' σ2 G3 _ (rp2.mono e3) fun z G4 e4' a4 => ?_
    have e4 := e3.trans e4'
    refine ⟨acc, e4 _ _ hacc, Nat.lt_of_le_of_lt (Nat.le_trans (by rw [hdl.length, List.length_map, List.length_take]; omega) hz) (by decide), fun b o hb => ?_, acc ++ [z], upd_same, ?_⟩
    · rw [upd_ne (by rintro rfl; rw [hL] at hb; cases hb)]
      exact e4 _ _ (sm _ _ hb)
    · rw [htk]
      have kk : TK G4 (upd G4 L (.lst (acc ++ [z]))) := TK.upd (fun zs hz2 => by rw [e4 _ _ hacc] at hz2; cases hz2)
      exact DtL.append (DtL.keep kk (DtL.keep (TK.of e4) hdl)) (.cons (Dt.keep kk a4) .nil)
  · obtain ⟨sm, acc, hacc, hdl⟩ := s
    rw [hk.length, List.take_length] at hdl
    have hG := sm _ _ upd_same
    refine ⟨hG, q _ _ (fun b o hb => ?_) ⟨L, acc, rfl, hHL, by rw [upd_ne hLp]; exact hacc, DtL.keep (TK.upd fun xs z => by rw [hG] at z; cases z) hdl⟩⟩
    by_cases hbp : b = p
    · subst hbp
      rw [upd_same, ← hp, hb]
    · rw [upd_ne hbp]
      exact sm _ _ (by rw [upd_ne hbp]; exact hb)
/-- with ends of its own -/
def RawS (K : PySem.W.Frag) (H0 : Hp) (Γ : List Sl) (t : TS) (D : Ends) : Prop := ∀ (σ : L2.St) (H : Hp), Rp K H0 Γ σ H → t D σ H
theorem raw_seq {H0 : Hp} {Γ1 : List Sl} {tS uS : TS} {E : Ends} (h : SemB K Γ tS (.nx Γ1)) (r : RawS K H0 Γ1 uS E) : RawS K H0 Γ (tSeq tS uS) E := fun σ H rp => h H0 σ H _ rp fun σ' H' rp' => r σ' H' rp'
theorem raw_sem {H0 : Hp} {tS : TS} {o : Oc} {E : Ends} (h : SemB K Γ tS o) (q : Post K H0 E o) : RawS K H0 Γ tS E := fun σ H rp => h H0 σ H E rp q
/-- y = dict(d); y[name] = e -/
theorem raw_copyput {k : Nat} {uS : TS} {H0 : Hp} {E : Ends} (hk : k < Γ.length) (hd : Sem K Γ td (.g (DictAt K D))) (hv : Sem K (Γ.set k .un) tv (.d (entD x))) (hy : Sem K (Γ.set k .un) ty (.d (.str n))) (hl : D.length ≤ 1000)
    (rest : RawS K H0 (Γ.set k (.g (DictAt K (jput D n x)))) uS E) :
    RawS K H0 Γ (tSeq (tAsg (tCB (fun xs H Q => ∃ (a : Addr) (kvs : List (Key × V)), xs = [.ref a] ∧ Rd H a (.dK kvs) ∧ ∀ p, H p = none → Q (.ref p) (upd H p (.dK kvs))) (tCons td tNil)) (gName k)) (tSeq (sDPut (tVar k) ty tv) uS)) E := fun σ H rp =>
  hd H0 σ H _ rp fun v H1 e1 a1 => by
    obtain ⟨p, kvs, ev, hp, hkv⟩ := a1.now
    subst ev
    refine ⟨p, kvs, rfl, .inl hp, fun c hc => ?_⟩
    have rp1 := rp.mono e1
    have hlen : k < σ.length := by rw [rp.len]; exact hk
    have rp2 : Rp K H0 (Γ.set k .un) (σ.set k (some (.ref c))) (upd H1 c (.dK kvs)) := (rp1.mono (same_new hc)).set (s := .un) trivial (fun z => by cases z) (fun z => by cases z)
    refine hv H0 _ _ _ rp2 fun w H3 e3 a3 => ⟨.ref c, by rw [List.getElem?_set_self hlen], hy H0 _ _ _ (rp2.mono e3) fun y H4 e4 a4 => ?_⟩
    have ey := Dt.isStr a4
    subst ey
    have hc4 : H4 c = some (.dK kvs) := e4 _ _ (e3 _ _ upd_same)
    have w4 : DkL K H4 kvs D := DkL.keep (TK.of (((same_new (o := .dK kvs) hc).trans e3).trans e4)) hkv
    refine ⟨c, _, rfl, .inl ⟨kvs, .inr n, hc4, rfl, Nat.lt_of_le_of_lt (by rw [hkv.length]; exact hl) (by decide), rfl⟩, ?_⟩
    have s15 : Same H1 (upd H4 c (.dK (putK kvs (.inr n) w))) := fun b o' hb => by
      have hbc : b ≠ c := by
        rintro rfl
        rw [hc] at hb
        cases hb
      rw [upd_ne hbc]
      exact e4 _ _ (e3 _ _ (by rw [upd_ne hbc]; exact hb))
    have tk5 : TK H4 (upd H4 c (.dK (putK kvs (.inr n) w))) := TK.upd fun xs z => by rw [hc4] at z; cases z
    have d5 : DictAt K (jput D n x) (upd H4 c (.dK (putK kvs (.inr n) w))) (.ref c) := ⟨c, _, rfl, upd_same, (w4.keep tk5).put (Dt.keep tk5 (Dt.keep (TK.of e4) a3))⟩
    exact rest _ _ ((rp1.mono s15).set (s := .g (DictAt K (jput D n x))) (dictAt_fst d5) (fun z => by cases z) (fun z => by cases z))
theorem semb_copyput {k : Nat} {uS : TS} {o : Oc} (hk : k < Γ.length) (hd : Sem K Γ td (.g (DictAt K D))) (hv : Sem K (Γ.set k .un) tv (.d (entD x))) (hy : Sem K (Γ.set k .un) ty (.d (.str n))) (hl : D.length ≤ 1000)
    (rest : SemB K (Γ.set k (.g (DictAt K (jput D n x)))) uS o) :
    SemB K Γ (tSeq (tAsg (tCB (fun xs H Q => ∃ (a : Addr) (kvs : List (Key × V)), xs = [.ref a] ∧ Rd H a (.dK kvs) ∧ ∀ p, H p = none → Q (.ref p) (upd H p (.dK kvs))) (tCons td tNil)) (gName k)) (tSeq (sDPut (tVar k) ty tv) uS)) o := fun H0 σ H E rp q =>
  raw_copyput hk hd hv hy hl (fun σ H rp => rest H0 σ H E rp q) σ H rp
theorem cvd_lenD : CvD K (fun xs H Q => ∃ a kvs, xs = [V.ref a] ∧ H a = some (.dK kvs) ∧ Q (.int kvs.length) H) [.g (DictAt K D)] (.d (.int (D.length : Int))) := fun H vs Q a q => by
  match vs, a with
  | [v], ⟨h1, _⟩ =>
    obtain ⟨p, kvs, rfl, h2, h3⟩ := h1.now
    refine ⟨p, kvs, rfl, h2, ?_⟩
    rw [h3.length]
    exact q _ H (Same.refl H) (.int _)
theorem sem_din (hd : Sem K Γ td (.g (DictAt K D))) (hn : Sem K Γ ty (.d (.str n))) (b : Bool) (e : (jget D n).isSome = b) : Sem K Γ (tDIn ty td) (.d (.bool b)) := fun H0 σ H Q rp q =>
  hn H0 σ H _ rp fun w H1 e1 a1 => hd H0 σ H1 _ (rp.mono e1) fun v H2 e2 a2 => by
    obtain ⟨p, kvs, ev, h1, h2⟩ := a2.now
    have ew := Dt.isStr a1
    subst ew
    cases hj : jget D n with
    | none =>
      rw [hj] at e
      have eb : b = false := e.symm
      subst eb
      exact ⟨p, none, ev, .inl ⟨kvs, .inr n, .inl h1, rfl, (h2.none hj).symm⟩, q _ H2 (e1.trans e2) (.bl _)⟩
    | some x =>
      rw [hj] at e
      have eb : b = true := e.symm
      subst eb
      obtain ⟨u, h3, h4⟩ := h2.get hj
      exact ⟨p, some u, ev, .inl ⟨kvs, .inr n, .inl h1, rfl, h3.symm⟩, q _ H2 (e1.trans e2) (.bl _)⟩
/-! a text, sign by sign -/
theorem semj_str {z : Str} (h : Sem K Γ te (.d (.str z))) : SemJ K Γ (iStr te) (z.cps.toList.map fun c => .str ⟨#[c]⟩) := fun H0 σ H R rp q =>
  h H0 σ H _ rp fun v H1 e1 a1 => by
    have ev := Dt.isStr a1
    subst ev
    refine ⟨z, rfl, q _ H1 e1 ?_⟩
    have w := (walk_str (z := z))
    rw [List.length_map, Array.length_toList]
    refine w.mono (fun _ _ => trivial) fun i G x G' hi s y => ?_
    obtain ⟨rfl, c, hc, rfl⟩ := y
    exact ⟨Same.refl _, .str ⟨#[c]⟩, by rw [List.getElem?_map, Array.getElem?_toList, hc]; rfl, .str _⟩
theorem dtl_bools {H : Hp} : ∀ {xs : List V} {bs : List Bool}, DtL K H xs (bs.map PyData.bool) → xs = bs.map V.bl
  | _, [], .nil => rfl
  | _, b :: bs, .cons h t => by
    cases h
    rw [dtl_bools t]
    rfl
theorem cvd_all {bs : List Bool} {b : Bool} (h : bs.all id = b) : CvD K (rAll K) [.l (bs.map PyData.bool)] (.d (.bool b)) := fun H vs Q a q => by
  match vs, a with
  | [v], ⟨h1, _⟩ =>
    obtain ⟨p, xs, rfl, ht, hl⟩ := h1
    have e := dtl_bools hl
    subst e
    refine ⟨p, bs, rfl, SqL.of ht, ?_⟩
    rw [h]
    exact q _ H (Same.refl H) (.bl _)
theorem cvd_lenStr {z : Str} (h : z.length ≤ 1000) : CvD K (fun xs H Q => ∃ z, xs = [.str z] ∧ z.length ≤ sizeLine ∧ Q (.int z.length) H) [.d (.str z)] (.d (.int (z.length : Int))) := fun H vs Q a q => by
  match vs, a with
  | [v], ⟨h1, _⟩ =>
    have ev := Dt.isStr h1
    subst ev
    exact ⟨z, rfl, Nat.le_of_lt (small1000 h), q _ H (Same.refl H) (.int _)⟩
theorem rvd_inSign {c : Nat} {z : Str} {b : Bool} (h : decide (c ∈ z.cps.toList) = b) : RvD K (fun x y H Q => ∃ (c : Nat) (z : Str), x = .str ⟨#[c]⟩ ∧ y = .str z ∧ Q (.bl (decide (c ∈ z.cps.toList))) H) (.d (.str ⟨#[c]⟩)) (.d (.str z)) (.d (.bool b)) := fun H v w Q a b' q => by
  have e1 := Dt.isStr a
  have e2 := Dt.isStr b'
  subst e1 e2 h
  exact ⟨c, z, rfl, rfl, q _ H (Same.refl H) (.bl _)⟩
end
end RP
end
section
set_option maxHeartbeats 4000000
namespace RP
open PySem PySem.Spec PyProof.Rows L2
/-! ### what is held in a keeper -/
structure JOk (D : JD) : Prop where
  srt : sortedN D
  nd : (D.map (·.1)).Nodup
  len : D.length ≤ 4
  job : ∀ e ∈ D, ∃ k, Held k e.2.1
  use : ∀ e ∈ D, Ab (4 * maxN) e.2.2
def jobsD (D : JD) : List Job := D.map (·.2.1)
def jointJ (D : JD) : Job := .grp true ((jobsD D).filter fun j => decide (0 < j.steps))
def usageD (D : JD) : Int := (D.map (·.2.2)).sum
def needD (D : JD) : Int := usageD D + (jointJ D).prof.peak
theorem filter_nodes (f : Job → Bool) : ∀ js : List Job, Job.nodesL (js.filter f) ≤ Job.nodesL js
  | [] => Nat.le_refl _
  | j :: js => by
    have ih := filter_nodes f js
    rw [List.filter_cons]
    split
    · rw [Job.nodesL, Job.nodesL]; omega
    · rw [Job.nodesL]; omega
theorem filter_steps (f : Job → Bool) : ∀ js : List Job, Job.stepsL (js.filter f) ≤ Job.stepsL js
  | [] => Nat.le_refl _
  | j :: js => by
    have ih := filter_steps f js
    rw [List.filter_cons]
    split
    · rw [Job.stepsL, Job.stepsL]; omega
    · rw [Job.stepsL]; omega
theorem goodL_of : ∀ {js : List Job}, (∀ j ∈ js, j.Good) → Job.GoodL js
  | [], _ => by rw [Job.GoodL]; trivial
  | j :: js, h => by
    rw [Job.GoodL]
    exact ⟨h j List.mem_cons_self, goodL_of fun x hx => h x (List.mem_cons_of_mem _ hx)⟩
theorem depths_le {d : Nat} : ∀ {js : List Job}, (∀ j ∈ js, j.depth ≤ d) → Job.depths js ≤ d
  | [], _ => by rw [Job.depths]; exact Nat.zero_le _
  | j :: js, h => by
    rw [Job.depths]
    exact Nat.max_le.mpr ⟨h j List.mem_cons_self, depths_le fun x hx => h x (List.mem_cons_of_mem _ hx)⟩
theorem nodesL_le_of {n : Nat} : ∀ {js : List Job}, (∀ j ∈ js, j.nodes ≤ n) → Job.nodesL js ≤ js.length * n
  | [], _ => by simp [Job.nodesL]
  | j :: js, h => by
    have h1 := h j List.mem_cons_self
    have h2 := nodesL_le_of fun x hx => h x (List.mem_cons_of_mem _ hx)
    rw [Job.nodesL, List.length_cons, Nat.add_mul, Nat.one_mul]
    omega
theorem stepsL_le_of {n : Nat} : ∀ {js : List Job}, (∀ j ∈ js, j.steps ≤ n) → Job.stepsL js ≤ js.length * n
  | [], _ => by simp [Job.stepsL]
  | j :: js, h => by
    have h1 := h j List.mem_cons_self
    have h2 := stepsL_le_of fun x hx => h x (List.mem_cons_of_mem _ hx)
    rw [Job.stepsL, List.length_cons, Nat.add_mul, Nat.one_mul]
    omega
theorem JOk.held {D : JD} (h : JOk D) : ∀ j ∈ jobsD D, ∃ k, Held k j := fun j hj => by
  obtain ⟨e, he, rfl⟩ := List.mem_map.mp hj
  exact h.job e he
theorem JOk.steps {D : JD} (h : JOk D) : (jointJ D).steps ≤ 4 * 1000000000000000000 := by
  have h1 := filter_steps (fun j => decide (0 < j.steps)) (jobsD D)
  have h2 := stepsL_le_of (n := 1000000000000000000) (js := jobsD D) fun j hj => (h.held j hj).elim fun k q => q.steps
  have h3 : (jobsD D).length ≤ 4 := by unfold jobsD; rw [List.length_map]; exact h.len
  have h4 : (jobsD D).length * 1000000000000000000 ≤ 4 * 1000000000000000000 := Nat.mul_le_mul_right _ h3
  unfold jointJ
  rw [Job.steps]
  omega
theorem JOk.ok {D : JD} (h : JOk D) : (jointJ D).Ok 13 := by
  have hs := h.steps
  have mem : ∀ j ∈ (jobsD D).filter (fun j => decide (0 < j.steps)), ∃ k, Held k j := fun j hj => h.held j (List.mem_filter.mp hj).1
  have h1 := filter_nodes (fun j => decide (0 < j.steps)) (jobsD D)
  have h2 := nodesL_le_of (n := 69) (js := jobsD D) fun j hj => (h.held j hj).elim fun k q => q.nodes
  have h3 : (jobsD D).length ≤ 4 := by unfold jobsD; rw [List.length_map]; exact h.len
  have h5 := depths_le (d := 6) fun j hj => (mem j hj).elim fun k q => q.depth
  refine ⟨?_, ?_, ?_⟩
  · unfold jointJ
    rw [Job.depth]
    omega
  · unfold jointJ
    rw [Job.nodes]
    omega
  · unfold jointJ at hs ⊢
    rw [Job.steps] at hs
    rw [Job.Good]
    refine ⟨?_, goodL_of fun j hj => (mem j hj).elim fun k q => q.good⟩
    unfold maxN
    omega
theorem JOk.get {D : JD} (h : JOk D) {e : Str × (Job × Int)} (he : e ∈ D) : jget D e.1 = some e.2 := by
  have key : ∀ {D : JD}, (D.map (·.1)).Nodup → e ∈ D → jget D e.1 = some e.2 := by
    intro D
    induction D with
    | nil => intro _ h; cases h
    | cons d D ih =>
      intro hn hm
      unfold jget
      by_cases hd : d.1 = e.1
      · rw [List.find?_cons_of_pos (by simpa using hd)]
        rcases List.mem_cons.mp hm with z | z
        · rw [z]; rfl
        · rw [List.map_cons] at hn
          exact absurd (hd ▸ (List.mem_map.mpr ⟨e, z, rfl⟩ : e.1 ∈ D.map (·.1))) (List.nodup_cons.mp hn).1
      · rw [List.find?_cons_of_neg (by simpa using hd)]
        rcases List.mem_cons.mp hm with z | z
        · exact absurd (by rw [z]) hd
        · rw [List.map_cons] at hn
          exact ih (List.nodup_cons.mp hn).2 z
  exact key h.nd he
section
variable {P : Program} {w : World} {K : PySem.W.Frag} {mg : Str → Option Value} {base : Heap} {Γ : List Sl} {te ta : TE} {E : XK}
def pr_is_number : List Rk → Rk → Prop := fun rs r => ∃ i : Int, rs = [.d (.int i)] ∧ r = .d (.bool true) ∧ -9999999999999999999999999999999999999999999999999999999999999 ≤ i ∧ i ≤ 9999999999999999999999999999999999999999999999999999999999999
theorem w_is_number (T : Tx K mg) : Df P w K mg base CX0 3 "is_number" p_is_number (spF K pr_is_number) := by
  have g_is_between := w_is_between (P := P) (w := w) (base := base) T
  refine df_sem (N := n_is_number) (k := 2) T.f_is_number (fun _ _ _ _ _ _ us hl => match us, hl with | [_], _ => rfl) sc_is_number (fun rs r h => by obtain ⟨i, rfl, _⟩ := h; rfl) ?_
  intro rs r h f cdv A outer s H E hr
  refine ⟨_, (pss_one (ps_ret (pe_df g_is_between hr (by omega) pass0 rfl (pa_cons (pv 0) (pa_cons (pe_op op_sub pe_int (pe_gint rfl T.c_MAX_INTEGER)) (pa_cons (pe_gint rfl T.c_MAX_INTEGER) pa_nil)))))), ?_⟩
  obtain ⟨i, rfl, rfl, h1, h2⟩ := h
  exact ⟨.rt (.d (.bool true)), semb_ret (sem_call (sema_cons (sem_var rfl) (sema_cons (sem_op sem_int sem_int rvd_sub) (sema_cons sem_int sema_nil))) ⟨_, _, _, rfl, .inl ⟨i, rfl, by rw [decide_eq_true (by omega), decide_eq_true (by omega)]; rfl⟩⟩), .inl rfl⟩
def limOk (i : Int) : Prop := 0 ≤ i ∧ i ≤ 9999999999999999999999999999999999999999999999999999999999999
def pr_check_limit : List Rk → Rk → Prop := fun rs r => ∃ i : Int, rs = [.d (.int i)] ∧ r = .d .none ∧ limOk i
theorem w_check_limit (T : Tx K mg) : Df P w K mg base CX0 4 "check_limit" p_check_limit (spF K pr_check_limit) := by
  have g_is_number := w_is_number (P := P) (w := w) (base := base) T
  refine df_sem (N := n_check_limit) (k := 3) T.f_check_limit (fun _ _ _ _ _ _ us hl => match us, hl with | [_], _ => rfl) sc_check_limit (fun rs r h => by obtain ⟨i, rfl, _⟩ := h; rfl) ?_
  intro rs r h f cdv A outer s H E hr
  refine ⟨_, (pss_one (ps_if (PW.pt (pw_or (pt_not (pt_val (pe_df g_is_number hr (by omega) pass0 rfl (pa_cons (pv 0) pa_nil)))) (pw_or1 (pt_cmpR op_lt (pv 0) pe_int (nomark _))))) (pss_one ps_never) pss_nil)), ?_⟩
  obtain ⟨i, rfl, rfl, h1, h2⟩ := h
  exact ⟨_, semb_if (b := false) (semt_or (a := false) (b := false) (semt_not (b := true) (semt_B (sem_call (sema_cons (sem_var rfl) sema_nil) ⟨i, rfl, rfl, by omega, h2⟩))) fun _ => semt_T (sem_op (sem_var rfl) sem_int (rvd_ltD (decide_eq_false (by omega))))) (fun z => by cases z) fun _ => semb_next, .inr ⟨_, rfl, rfl⟩⟩
/-- a name -/
structure NmOk (z : Str) : Prop where
  lo : 1 ≤ z.length
  hi : z.length ≤ 8
  ch : ∀ c ∈ z.cps.toList, c ∈ ("abcdefghijklmnopqrstuvwxyz" : Str).cps.toList
def pr_is_name : List Rk → Rk → Prop := fun rs r => ∃ z : Str, rs = [.d (.str z)] ∧ r = .d (.bool true) ∧ NmOk z
theorem w_is_name (T : Tx K mg) : Df P w K mg base CX0 1 "is_name" p_is_name (spF K pr_is_name) := by
  refine df_sem (N := n_is_name) (k := 0) T.f_is_name (fun _ _ _ _ _ _ us hl => match us, hl with | [_], _ => rfl) sc_is_name (fun rs r h => by obtain ⟨z, rfl, _⟩ := h; rfl) ?_
  intro rs r h f cdv A outer s H E hr
  refine ⟨_, (pss_cons (ps_if (PW.pt (pw_or (pt_not (pt_val (pe_callB call_isi rfl T.b_isinstance (by decide +kernel) (pa_cons (pv 0) (pa_cons (pe_bltn (v := .ty "str") (u := .type "str") rfl T.b_str (by decide +kernel) rfl) pa_nil))))) (pw_or1 (pt_not (pt_chain op_le op_le pe_int (pe_callB call_len_str rfl T.b_len (by decide +kernel) (pa_cons (pv 0) pa_nil)) (pe_gint rfl T.c_MAX_LETTERS)))))) (pss_one (ps_ret pe_bl)) pss_nil)
    (pss_one (ps_ret (pe_callB (cr_all rfl) rfl T.b_all (by decide +kernel) (pa_cons (pe_lc (own := [("letter", 1)]) (g := (gName 1)) (tt := tYes) rfl sc_is_name.nd (pi_str (pv 0)) (blkOk_by (own := [("letter", 1)]) (N := n_is_name) (sc := defScope s_is_name) (by decide +kernel)) (fun _ _ _ _ _ => (pg_name (i := 1) sc_is_name.nd rfl (Or.inl rfl))) (fun _ _ _ _ _ => pts_nil) (fun _ _ _ _ _ => (pe_cmpR op_in_sign (pv 1) (pe_gstr rfl T.c_LETTERS) (by rfl)))) pa_nil))))), ?_⟩
  obtain ⟨z, rfl, rfl, ok⟩ := h
  have h1 := ok.lo
  have h2 := ok.hi
  refine ⟨.rt (.d (.bool true)), ?_, .inl rfl⟩
  refine semb_seq (semb_if (b := false) (semt_or (a := false) (b := false) (semt_not (b := true) (semt_B (sem_isiS (sem_var rfl) (by decide +kernel)))) fun _ => semt_not (b := true) (semt_B ?_)) (fun z => by cases z) fun _ => semb_next) ?_
  · have := sem_chain (K := K) (Γ := [.d (.str z), .un]) (sem_int (i := 1)) (sem_cb (sema_cons (sem_var (i := 0) (x := .str z) rfl) sema_nil) (cvd_lenStr (z := z) (by omega))) (sem_int (i := 8)) (rvd_le' (b := true) (decide_eq_true (by omega))) (rvd_le' (b := true) (decide_eq_true (by omega)))
    exact this
  · refine semb_ret (sem_cb (sema_cons (r := .l ((z.cps.toList.map fun c => true).map PyData.bool)) ?_ sema_nil) (cvd_all (by simp)))
    have e : (z.cps.toList.map fun c => true).map PyData.bool = z.cps.toList.map fun c => PyData.bool true := by rw [List.map_map]; rfl
    rw [e]
    exact sem_lcM z.cps.toList (fun c => .str ⟨#[c]⟩) (fun _ => .bool true) (semj_str (sem_var rfl)) (by rw [Array.length_toList]; exact Nat.le_trans h2 (by decide)) fun c hc => ⟨_, _, semg_name, by decide, sem_op (sem_var rfl) sem_str (rvd_inSign (decide_eq_true (ok.ch c hc)))⟩
/-! ### the jobs -/
def pr_usage_in : List Rk → Rk → Prop := fun rs r => ∃ D : JD, rs = [.g (DictAt K D)] ∧ r = .d (.int (usageD D)) ∧ D.length ≤ 1000
theorem w_usage_in (T : Tx K mg) : Df P w K mg base CX0 1 "usage_in" p_usage_in (spF K (pr_usage_in (K := K))) := by
  refine df_sem (N := n_usage_in) (k := 0) T.f_usage_in (fun _ _ _ _ _ _ us hl => match us, hl with | [_], _ => rfl) sc_usage_in (fun rs r h => by obtain ⟨D, rfl, _⟩ := h; rfl) ?_
  intro rs r h f cdv A outer s H E hr
  refine ⟨_, (pss_one (ps_ret (pe_callB (cr_sum rfl) rfl T.b_sum (by decide +kernel) (pa_cons (pe_lock (pe_lc (own := [("job", 1), ("usage", 2)]) (g := (gTup K 2 (gCons (gName 1) (gCons (gName 2) gNil)))) (tt := tYes) rfl sc_usage_in.nd (pi_values (pv 0)) (blkOk_by (own := [("job", 1), ("usage", 2)]) (N := n_usage_in) (sc := defScope s_usage_in) (by decide +kernel)) (fun _ _ _ _ _ => (pg_tup rfl (pgs_cons (pg_name (i := 1) sc_usage_in.nd rfl (Or.inl rfl)) (pgs_cons (pg_name (i := 2) sc_usage_in.nd rfl (Or.inl rfl)) pgs_nil)))) (fun _ _ _ _ _ => pts_nil) (fun _ _ _ _ _ => (pv 2)))) pa_nil)))), ?_⟩
  obtain ⟨D, rfl, rfl, hl⟩ := h
  refine ⟨.rt (.d (.int (usageD D))), ?_, .inl rfl⟩
  have e : (D.map (·.2.2)).map PyData.int = D.map fun e => PyData.int e.2.2 := by rw [List.map_map]; rfl
  refine semb_ret (sem_cb (sema_cons (r := .l ((D.map (·.2.2)).map PyData.int)) ?_ sema_nil) (cvd_sum rfl))
  rw [e]
  exact sem_lcVals (fun e => .int e.2.2) rfl (by omega) fun e he => ⟨_, _, semg_tup (xs := [e.2.1.data, .int e.2.2]) rfl (semgs_cons semg_name (semgs_cons semg_name semgs_nil)), by decide, sem_var rfl⟩
def pr_joint_of : List Rk → Rk → Prop := fun rs r => ∃ D : JD, rs = [.g (DictAt K D)] ∧ r = .d (jointJ D).data ∧ JOk D
theorem w_joint_of (T : Tx K mg) : Df P w K mg base CX0 16 "joint_of" p_joint_of (spF K (pr_joint_of (K := K))) := by
  have g_step_count_by := w_step_count_by (P := P) (w := w) (base := base) T 13
  refine df_sem (N := n_joint_of) (k := 15) T.f_joint_of (fun _ _ _ _ _ _ us hl => match us, hl with | [_], _ => rfl) sc_joint_of (fun rs r h => by obtain ⟨D, rfl, _⟩ := h; rfl) ?_
  intro rs r h f cdv A outer s H E hr
  refine ⟨_, (pss_cons (ps_setLc (i := 1) (own := [("name", 2)]) (g := (gName 2)) (tt := tYes) rfl sc_joint_of.nd rfl rfl (sw_true rfl rfl rfl (by decide +kernel)) (pi_list (pe_callB (call_sortedD rfl) rfl T.b_sorted (by decide +kernel) (pa_cons (pv 0) pa_nil))) (blkOk_by (own := [("name", 2)]) (N := n_joint_of) (sc := defScope s_joint_of) (by decide +kernel)) (fun _ _ _ _ _ => (pg_name (i := 2) sc_joint_of.nd rfl (Or.inl rfl))) (fun _ _ _ _ _ => pts_nil) (fun _ _ _ _ _ => (pe_ix (ix_tupK (K := K)) (pe_dget (hu_of hr) (pv 0) (pv 2) (fun _ _ => rfl)) pe_int (fun _ _ => rfl))))
    (pss_one (ps_ret (pe_tup (pa_cons pe_str (pa_cons (pe_callTy call_tuple_of rfl T.b_tuple (by decide +kernel) (pa_cons (pe_lc (own := [("job", 3)]) (g := (gName 3)) rfl sc_joint_of.nd (pi_list (pv 1)) (blkOk_by (own := [("job", 3)]) (N := n_joint_of) (sc := defScope s_joint_of) (by decide +kernel)) (fun _ _ _ _ _ => (pg_name (i := 3) sc_joint_of.nd rfl (Or.inl rfl))) (fun _ _ _ _ _ => (pts_one (pt_cmpR op_gt (pe_df g_step_count_by hr (by omega) pass0 rfl (pa_cons (pv 3) pa_nil)) pe_int (nomark _)))) (fun _ _ _ _ _ => (pv 3))) pa_nil)) pa_nil)))))), ?_⟩
  obtain ⟨D, rfl, rfl, ok⟩ := h
  refine ⟨.rt (.d (jointJ D).data), ?_, .inl rfl⟩
  have hl := ok.len
  have e1 : (D.map (·.1)).map PyData.str = D.map fun e => PyData.str e.1 := by rw [List.map_map]; rfl
  have e2 : (jobsD D).map Job.data = D.map fun e => e.2.1.data := by unfold jobsD; rw [List.map_map]; rfl
  refine semb_seq (semb_set (r := .l ((jobsD D).map Job.data)) ?_) ?_
  · rw [e2]
    refine sem_lcM D (fun e => .str e.1) _ ?_ (by omega) fun e he => ⟨_, _, semg_name, by decide, sem_op (r1 := .d (entD e.2)) (sem_dget (sem_varG rfl) (sem_var rfl) (ok.get he)) sem_int (rvd_ixT rfl)⟩
    rw [← e1]
    exact (semi_new (sem_cb (sema_cons (sem_varG rfl) sema_nil) (cvd_sortedD ok.srt (by omega)))).j
  · have e3 : (jointJ D).data = .tuple [.str "par", .tuple (((jobsD D).filter fun j => decide (0 < j.steps)).map Job.data)] := by
      unfold jointJ
      rw [← datas_map]
      rfl
    have e4 : ((jobsD D).filter fun j => decide (0 < j.steps)).map Job.data = (jobsD D).filterMap fun j => if 0 < j.steps then some j.data else none := by
      generalize jobsD D = js
      induction js with
      | nil => rfl
      | cons j js ih =>
        by_cases h : 0 < j.steps
        · rw [List.filter_cons_of_pos (by simpa using h), List.map_cons, ih, List.filterMap_cons, if_pos h]
        · rw [List.filter_cons_of_neg (by simpa using h), ih, List.filterMap_cons, if_neg h]
    rw [e3, e4]
    refine semb_ret (sem_tup (ds := [_, _]) (sema_cons sem_str (sema_cons (sem_cbL (sem_lc (jobsD D) Job.data _ (semj_own rfl) (by unfold jobsD; rw [List.length_map]; omega) fun j hj => ?_) cvd_tupleL) sema_nil)) (by simp))
    obtain ⟨k, hh⟩ := ok.held j hj
    have c : Sem K _ (tCall (spF K (pr_step_count_by 13)) [] E0 (tCons (tVar 3) tNil)) (.d (.int (j.steps : Int))) := sem_call (Γ := [.g (DictAt K D), .l ((jobsD D).map Job.data), .un, .d j.data]) (sema_cons (sem_var rfl) sema_nil) ⟨j, rfl, rfl, by have := hh.depth; omega, hh.good, by have := hh.nodes; omega⟩
    refine ⟨_, _, semg_name, by decide, ?_⟩
    by_cases h : 0 < j.steps
    · exact .inl ⟨_, by rw [if_pos h], semt_T (sem_op c sem_int (rvd_gt' (decide_eq_true (by omega)))), sem_var rfl⟩
    · exact .inr ⟨by rw [if_neg h], semt_T (sem_op c sem_int (rvd_gt' (decide_eq_false (by omega))))⟩
def pr_need_in : List Rk → Rk → Prop := fun rs r => ∃ D : JD, rs = [.g (DictAt K D)] ∧ r = .d (.int (needD D)) ∧ JOk D
theorem w_need_in (T : Tx K mg) : Df P w K mg base CX0 20 "need_in" p_need_in (spF K (pr_need_in (K := K))) := by
  have g_usage_in := w_usage_in (P := P) (w := w) (base := base) T
  have g_joint_of := w_joint_of (P := P) (w := w) (base := base) T
  have g_least_peak := w_least_peak (P := P) (w := w) (base := base) T
  refine df_sem (N := n_need_in) (k := 19) T.f_need_in (fun _ _ _ _ _ _ us hl => match us, hl with | [_], _ => rfl) sc_need_in (fun rs r h => by obtain ⟨D, rfl, _⟩ := h; rfl) ?_
  intro rs r h f cdv A outer s H E hr
  refine ⟨_, (pss_one (ps_ret (pe_op op_add (pe_df g_usage_in hr (by omega) pass0 rfl (pa_cons (pv 0) pa_nil)) (pe_df g_least_peak hr (by omega) pass0 rfl (pa_cons (pe_df g_joint_of hr (by omega) pass0 rfl (pa_cons (pv 0) pa_nil)) pa_nil))))), ?_⟩
  obtain ⟨D, rfl, rfl, ok⟩ := h
  have hl := ok.len
  exact ⟨.rt (.d (.int (needD D))), semb_ret (sem_op (sem_call (sema_cons (sem_varG rfl) sema_nil) ⟨D, rfl, rfl, by omega⟩) (sem_call (sema_cons (sem_call (sema_cons (sem_varG rfl) sema_nil) ⟨D, rfl, rfl, ok⟩) sema_nil) ⟨_, rfl, rfl, ok.ok⟩) rvd_add), .inl rfl⟩
def pr_check_joint : List Rk → Rk → Prop := fun rs r => ∃ D : JD, rs = [.g (DictAt K D)] ∧ r = .d .none ∧ JOk D
theorem w_check_joint (T : Tx K mg) : Df P w K mg base CX0 31 "check_joint" p_check_joint (spF K (pr_check_joint (K := K))) := by
  have g_joint_of := w_joint_of (P := P) (w := w) (base := base) T
  have g_is_job := w_is_job (P := P) (w := w) (base := base) T
  refine df_sem (N := n_check_joint) (k := 30) T.f_check_joint (fun _ _ _ _ _ _ us hl => match us, hl with | [_], _ => rfl) sc_check_joint (fun rs r h => by obtain ⟨D, rfl, _⟩ := h; rfl) ?_
  intro rs r h f cdv A outer s H E hr
  refine ⟨_, (pss_one (ps_if (pt_not (pt_val (pe_df g_is_job hr (by omega) pass0 rfl (pa_cons (pe_df g_joint_of hr (by omega) pass0 rfl (pa_cons (pv 0) pa_nil)) pa_nil)))) (pss_one ps_never) pss_nil)), ?_⟩
  obtain ⟨D, rfl, rfl, ok⟩ := h
  exact ⟨_, semb_if (b := false) (semt_not (b := true) (semt_B (sem_call (sema_cons (sem_call (sema_cons (sem_varG rfl) sema_nil) ⟨D, rfl, rfl, ok⟩) sema_nil) ⟨_, rfl, rfl, ok.ok⟩))) (fun z => by cases z) fun _ => semb_next, .inr ⟨_, rfl, rfl⟩⟩
def pr_stepped : List Rk → Rk → Prop := fun rs r => ∃ (D : JD) (n : Str) (c : List Nat) (k : Nat) (j : Job) (u v : Int), rs = [.g (DictAt K D), .d (.str n), .d (adD c)] ∧ r = .g (DictAt K (jput D n ((j.left c).tidy, u + v))) ∧ jget D n = some (j, u) ∧ j.Ch c v ∧ Held k j ∧ D.length ≤ 1000
theorem w_stepped (T : Tx K mg) : Df P w K mg base CX0 20 "stepped" p_stepped (spF K (pr_stepped (K := K))) := by
  have g_remainder_by := w_remainder_by (P := P) (w := w) (base := base) T
  have g_step_by := w_step_by (P := P) (w := w) (base := base) T
  refine df_sem (N := n_stepped) (k := 19) T.f_stepped (fun _ _ _ _ _ _ us hl => match us, hl with | [_, _, _], _ => rfl) sc_stepped (fun rs r h => by obtain ⟨D, n, c, k, j, u, v, rfl, _⟩ := h; rfl) ?_
  intro rs r h f cdv A outer s H E hr
  refine ⟨_, (pss_cons (ps_asg (pe_dget (hu_of hr) (pv 0) (pv 1) (fun _ _ => rfl)) (pg_tup rfl (pgs_cons (pg_name (i := 3) sc_stepped.nd rfl (Or.inl rfl)) (pgs_cons (pg_name (i := 4) sc_stepped.nd rfl (Or.inl rfl)) pgs_nil))))
    (pss_cons (ps_set (i := 5) sc_stepped.nd rfl (Or.inl rfl) (pe_callTy call_dictD rfl T.b_dict (by decide +kernel) (pa_cons (pv 0) pa_nil)))
    (pss_cons (ps_dput (hu_of hr) (pv 5) (pv 1) (pe_tup (pa_cons (pe_df g_remainder_by hr (by omega) pass0 rfl (pa_cons (pv 3) (pa_cons (pv 2) pa_nil))) (pa_cons (pe_op op_add (pv 4) (pe_df g_step_by hr (by omega) pass0 rfl (pa_cons (pv 3) (pa_cons (pv 2) pa_nil)))) pa_nil))) rfl)
    (pss_one (ps_ret (pv 5)))))), ?_⟩
  obtain ⟨D, n, c, k, j, u, v, rfl, rfl, hg, hc, hh, hl⟩ := h
  have h1 := hh.depth
  have h2 := hh.nodes
  refine ⟨.rt (.g (DictAt K (jput D n ((j.left c).tidy, u + v)))), ?_, .inl rfl⟩
  refine semb_seq (semb_asg (x := entD (j, u)) (sem_dget (sem_varG rfl) (sem_var rfl) hg) (semg_tup (xs := [j.data, .int u]) rfl (semgs_cons semg_name (semgs_cons semg_name semgs_nil)))) ?_
  refine semb_copyput (k := 5) (x := ((j.left c).tidy, u + v)) (by simp [slots, n_stepped]) (sem_varG rfl) ?_ (sem_var rfl) hl (semb_ret (sem_varG rfl))
  exact sem_tup (ds := [_, _]) (sema_cons (sem_call (sema_cons (sem_var rfl) (sema_cons (sem_var rfl) sema_nil)) ⟨j, c, v, rfl, rfl, hc, by omega, by omega, hh.good⟩) (sema_cons (sem_op (sem_var rfl) (sem_call (sema_cons (sem_var rfl) (sema_cons (sem_var rfl) sema_nil)) ⟨j, c, v, rfl, rfl, ch_pa c j v hc⟩) rvd_add) sema_nil)) (by simp)
end
end RP
end
section
set_option autoImplicit false
set_option maxHeartbeats 4000000
namespace RP
open PySem PySem.Spec PyProof.Rows L2
abbrev s_NotEnough___init : Stmt := inClass (top 10) 0
abbrev n_NotEnough___init : List Str := ["self", "least"]
abbrev p_NotEnough___init : List Str := ["self", "least"]
theorem sc_NotEnough___init : FnScope n_NotEnough___init p_NotEnough___init (defScope s_NotEnough___init) := ⟨rfl, rfl, rfl, by decide +kernel, rfl, by decide +kernel, by decide +kernel⟩
/-! ### methods -/
/-- where a method of the text stands -/
def MethAt (K : PySem.W.Frag) (C : Addr) (m qual : Str) (st : Stmt) : Prop :=
  ∃ f fd, FunD K m qual (defArgs st) (defBody st) (defScope st) [] [] f fd ∧ Meth K C m f
structure DfM (P : Program) (w : World) (K : PySem.W.Frag) (mg : Str → Option Value) (base : Heap) (CX : CXT) (k : Nat) (C : Addr) (m : Str) (ps : List Str) (sp : Sp) : Prop where
  ex : ∃ f fd, FnOk P w K mg base CX k f fd ps sp ∧ Meth K C m f ∧ Binds K fd ps []
  cls : Cls K C
section
variable {X : Cx} {CX : CXT} {E : XK} {k j : Nat} {C : Addr} {m : Str} {ps : List Str} {sp : Sp} {o e : Expr} {es : List Expr} {ta : TE} {t : TA} {apos pos : Pos} {pl : PySem.Sem Bool}
theorem pe_dfm (he : PE X o ta) (D : DfM X.prog X.w X.K X.mg X.base CX k C m ps sp) (hr : Room j X.A) (hkj : k ≤ j) (hx : Passes CX X E) (ha : PA X (e :: es) t)
    (hst : starEach (e :: es) X.env = (false, eval e X.env) :: starEach es X.env := by rfl) (hpl : (backTo pos (starEach es X.env)).any (·.1) = false := by rfl)
    (ht : eval (.Call (.Attribute o m apos) (e :: es) [] pos) X.env = (do
      let ov ← eval o X.env
      standAt apos.atName
      let (f, first) ← holding [ov] (getMethod ov m pl)
      callWith pos f first (backTo pos (starEach (e :: es) X.env)) (backToKw pos (keywordEach [] X.env))) := by rfl) :
    PE X (.Call (.Attribute o m apos) (e :: es) [] pos) (tMeth C m sp [] E ta t) := by
  obtain ⟨f, fd, F, hm, hb⟩ := D.ex
  exact pe_meth he D.cls hm F (hr.mono hkj) hb .nil hx ha hst hpl ht
theorem pe_dfm0 (he : PE X o ta) (D : DfM X.prog X.w X.K X.mg X.base CX k C m ps sp) (hr : Room j X.A) (hkj : k ≤ j) (hx : Passes CX X E)
    (ht : eval (.Call (.Attribute o m apos) [] [] pos) X.env = (do
      let ov ← eval o X.env
      standAt apos.atName
      let (f, first) ← holding [ov] (getMethod ov m pl)
      callWith pos f first (backTo pos (starEach [] X.env)) (backToKw pos (keywordEach [] X.env))) := by rfl) :
    PE X (.Call (.Attribute o m apos) [] [] pos) (tMeth C m sp [] E ta tNil) := by
  obtain ⟨f, fd, F, hm, hb⟩ := D.ex
  exact pe_meth0 he D.cls hm F (hr.mono hkj) hb .nil hx ht
end
/-- what the top has written of the classes -/
structure Tk (K : PySem.W.Frag) (mg : Str → Option Value) : Prop extends Tx K mg where
  kp_g : mg "Keeper" = some (.ref (He.ga K "Keeper"))
  kp_cls : Cls K (He.ga K "Keeper")
  no_limit : NoAttr K (He.ga K "Keeper") "limit"
  no_jobs : NoAttr K (He.ga K "Keeper") "jobs"
  no_rows : NoAttr K (He.ga K "Keeper") "rows"
  no_earlier : NoAttr K (He.ga K "Keeper") "earlier"
  m_usage : MethAt K (He.ga K "Keeper") "usage" "Keeper.usage" s_Keeper_usage
  m_need : MethAt K (He.ga K "Keeper") "need" "Keeper.need" s_Keeper_need
  m_check_known : MethAt K (He.ga K "Keeper") "check_known" "Keeper.check_known" s_Keeper_check_known
  m_remaining : MethAt K (He.ga K "Keeper") "remaining" "Keeper.remaining" s_Keeper_remaining
  m_change : MethAt K (He.ga K "Keeper") "change" "Keeper.change" s_Keeper_change
  m_admit : MethAt K (He.ga K "Keeper") "admit" "Keeper.admit" s_Keeper_admit
  m_after : MethAt K (He.ga K "Keeper") "after" "Keeper.after" s_Keeper_after
  m_grant : MethAt K (He.ga K "Keeper") "grant" "Keeper.grant" s_Keeper_grant
  m_init : ∃ f fd, FunD K "__init__" "Keeper.__init__" (defArgs s_Keeper___init) (defBody s_Keeper___init) (defScope s_Keeper___init) [] [] f fd ∧ Mk K (He.ga K "Keeper") f
  m_eq : MethAt K (He.ga K "Keeper") "__eq__" "Keeper.__eq__" s_Keeper___eq
  kp_c1 : PySem.W.findIn K (.ref (He.ga K "Keeper")) "__class__" = some (some (.builtin "object.__class__"))
  kp_c2 : PySem.W.specialIn K (.builtin "object.__class__") "__get__" = some (some (.builtin "getset_descriptor.__get__"))
  kp_c3 : PySem.W.takesIn K (.builtin "object.__class__") = some true
  kp_c4 : PySem.W.mroIn K (He.ga K "Keeper") (.type "object") = some true
  ne_g : mg "NotEnough" = some (.ref (He.ga K "NotEnough"))
  ne_c : ReC K (He.ga K "NotEnough")
  ne_no : PySem.W.findIn K (.ref (He.ga K "NotEnough")) "least" = some none
  ne_init : ∃ f fd, FunD K "__init__" "NotEnough.__init__" (defArgs s_NotEnough___init) (defBody s_NotEnough___init) (defScope s_NotEnough___init) [] [] f fd ∧ PySem.W.findIn K (.ref (He.ga K "NotEnough")) "__init__" = some (some (.ref f)) ∧ PySem.W.typeIn K (.ref f) = some (.type "function")
  ne_b : mg "RuntimeError" = none
  ne_v : PySem.W.findCls K (.type "RuntimeError") (.type "type") "__init__" = some (.val (.builtin "RuntimeError.__init__"))
  ne_te : PySem.W.exmOne K (.ref (He.ga K "NotEnough")) (.ref (He.ga K "NotEnough")) = some true
/-- a keeper's content -/
structure KS where
  lim : Int
  D : JD
  n : Nat
def kFields : List Str := ["limit", "jobs", "rows", "earlier"]
def KpAt (K : PySem.W.Frag) (S : KS) (H : Hp) (x : V) : Prop :=
  ∃ a dx fs v, x = .ref a ∧ H a = some (.ins (He.ga K "Keeper") dx fs) ∧ fs.lookup ("limit" : Str) = some (V.int S.lim) ∧ fs.lookup ("jobs" : Str) = some v ∧ DictAt K S.D H v ∧ ∀ m, m ∉ kFields → fs.lookup m = none
section
variable {K : PySem.W.Frag} {mg : Str → Option Value} {Γ : List Sl} {te ta : TE} {tr : TA} {S : KS} {H H' : Hp} {x : V}
theorem kpAt_nl (n : NL H H') (h : KpAt K S H x) : KpAt K S H' x := by
  obtain ⟨a, dx, fs, v, e, h1, h2, h3, h4, h5⟩ := h
  exact ⟨a, dx, fs, v, e, n a _ (by intro xs z; cases z) h1, h2, h3, dictAt_nl n h4, h5⟩
theorem kpAt_fst (h : KpAt K S H x) : Fst (KpAt K S) H x := fun _ n => kpAt_nl n h
theorem sem_limit (T : Tk K mg) (h : Sem K Γ te (.g (KpAt K S))) : Sem K Γ (tFld K te "limit") (.d (.int S.lim)) := fun H0 σ H Q rp q =>
  h H0 σ H _ rp fun u H1 e1 a1 => by
    obtain ⟨a, dx, fs, v, e, h1, h2, h3, h4, h5⟩ := a1.now
    exact ⟨a, _, dx, fs, _, e, h1, T.kp_cls, T.no_limit, h2, q _ H1 e1 (.int _)⟩
theorem sem_jobs (T : Tk K mg) (h : Sem K Γ te (.g (KpAt K S))) : Sem K Γ (tFld K te "jobs") (.g (DictAt K S.D)) := fun H0 σ H Q rp q =>
  h H0 σ H _ rp fun u H1 e1 a1 => by
    obtain ⟨a, dx, fs, v, e, h1, h2, h3, h4, h5⟩ := a1.now
    exact ⟨a, _, dx, fs, v, e, h1, T.kp_cls, T.no_jobs, h3, q v H1 e1 (dictAt_fst h4)⟩
theorem sem_meth {pre : List Rk → Rk → Prop} {m : Str} {E : XK} {rs : List Rk} {r : Rk} (hm : m ∉ kFields) (h : Sem K Γ te (.g (KpAt K S))) (ha : SemA K Γ tr rs) (hp : pre (.g (KpAt K S) :: rs) r) : Sem K Γ (tMeth (He.ga K "Keeper") m (spF K pre) [] E te tr) r := fun H0 σ H Q rp q =>
  h H0 σ H _ rp fun u H1 e1 a1 => by
    obtain ⟨a, dx, fs, v, e, h1, h2, h3, h4, h5⟩ := a1.now
    refine ⟨a, dx, fs, e, h1, h5 m hm, ha H0 σ H1 _ (rp.mono e1) fun vs H2 e2 a2 => ⟨_, r, hp, ?_, fun v H3 e3 a3 => q v H3 ((e1.trans e2).trans e3) (a3.back (e1.trans e2))⟩⟩
    rw [List.append_nil]
    exact ⟨Fst.mono (NL.of e2) a1, a2⟩
end
section
variable {P : Program} {w : World} {K : PySem.W.Frag} {mg : Str → Option Value} {base : Heap}
theorem dfm_sem {CX : CXT} {C : Addr} {st : Stmt} {m qual : Str} {N ps : List Str} {k : Nat} {pre : List Rk → Rk → Prop} (hc : Cls K C) (hF : MethAt K C m qual st)
    (hb : ∀ (kV doc pm : Value) (an : Option Addr) (cdv ct : Value) (us : List Value), us.length = ps.length → bindArgs (PySem.W.fnOf m qual (defArgs st) (defBody st) (defScope st) .none kV doc pm an cdv ct) ⟨us, []⟩ = pure (ps.zip us))
    (S : FnScope N ps (defScope st)) (len : ∀ rs r, pre rs r → rs.length = ps.length)
    (body : ∀ rs r, pre rs r → ∀ (f : Addr) (cdv : Value) (A : Around) (outer : List Env) (s : Shared) (H : Hp) (E : XK), Room k (A.deeper (envOfC qual (defScope st) s.heap.objs.size f cdv)) →
      ∃ t, PSs (cxOf CX P w K mg base N qual (defScope st) f cdv A outer s H E).nox (defBody st) t ∧ ∃ o, SemB K (slots N rs) t o ∧ Fin_ o r) : DfM P w K mg base CX (k + 1) C m ps (spF K pre) := by
  obtain ⟨f, fd, F, hm⟩ := hF
  refine ⟨⟨f, fd, ?_, hm, F.bindsN hb⟩, hc⟩
  refine F.ok S (fun vs H Q E h => ?_) (fun cdv A outer s H vs Q E hr h => ?_)
  · obtain ⟨rs, r, h1, h2, _⟩ := h
    rw [h2.length, len rs r h1]
  · obtain ⟨rs, r, h1, h2, h3⟩ := h
    obtain ⟨t, d, o, sb, fin⟩ := body rs r h1 f cdv A outer s H E hr
    refine ⟨t, PSs.nox d, sb H _ H _ (rp_start h2) ?_⟩
    rcases fin with rfl | ⟨Γ, rfl, rfl⟩
    · exact fun v H' e a => h3 v H' e a
    · exact fun σ' H' rp => h3 .non H' rp.same .non
def pr_k_usage : List Rk → Rk → Prop := fun rs r => ∃ S : KS, rs = [.g (KpAt K S)] ∧ r = .d (.int (usageD S.D)) ∧ S.D.length ≤ 1000
theorem w_k_usage (T : Tk K mg) : DfM P w K mg base CX0 2 (He.ga K "Keeper") "usage" p_Keeper_usage (spF K (pr_k_usage (K := K))) := by
  have g_usage_in := w_usage_in (P := P) (w := w) (base := base) T.toTx
  refine dfm_sem (N := n_Keeper_usage) (k := 1) T.kp_cls T.m_usage (fun _ _ _ _ _ _ us hl => match us, hl with | [_], _ => rfl) sc_Keeper_usage (fun rs r h => by obtain ⟨S, rfl, _⟩ := h; rfl) ?_
  intro rs r h f cdv A outer s H E hr
  refine ⟨_, (pss_one (ps_ret (pe_df g_usage_in hr (by omega) pass0 rfl (pa_cons (pe_fld (pv 0) rfl) pa_nil)))), ?_⟩
  obtain ⟨S, rfl, rfl, hl⟩ := h
  exact ⟨.rt (.d (.int (usageD S.D))), semb_ret (sem_call (sema_cons (sem_jobs T (sem_varG rfl)) sema_nil) ⟨S.D, rfl, rfl, hl⟩), .inl rfl⟩
def pr_k_need : List Rk → Rk → Prop := fun rs r => ∃ S : KS, rs = [.g (KpAt K S)] ∧ r = .d (.int (needD S.D)) ∧ JOk S.D
theorem w_k_need (T : Tk K mg) : DfM P w K mg base CX0 21 (He.ga K "Keeper") "need" p_Keeper_need (spF K (pr_k_need (K := K))) := by
  have g_need_in := w_need_in (P := P) (w := w) (base := base) T.toTx
  refine dfm_sem (N := n_Keeper_need) (k := 20) T.kp_cls T.m_need (fun _ _ _ _ _ _ us hl => match us, hl with | [_], _ => rfl) sc_Keeper_need (fun rs r h => by obtain ⟨S, rfl, _⟩ := h; rfl) ?_
  intro rs r h f cdv A outer s H E hr
  refine ⟨_, (pss_one (ps_ret (pe_df g_need_in hr (by omega) pass0 rfl (pa_cons (pe_fld (pv 0) rfl) pa_nil)))), ?_⟩
  obtain ⟨S, rfl, rfl, ok⟩ := h
  exact ⟨.rt (.d (.int (needD S.D))), semb_ret (sem_call (sema_cons (sem_jobs T (sem_varG rfl)) sema_nil) ⟨S.D, rfl, rfl, ok⟩), .inl rfl⟩
def pr_k_check_known : List Rk → Rk → Prop := fun rs r => ∃ (S : KS) (n : Str), rs = [.g (KpAt K S), .d (.str n)] ∧ r = .d .none ∧ NmOk n ∧ (jget S.D n).isSome = true
theorem w_k_check_known (T : Tk K mg) : DfM P w K mg base CX0 2 (He.ga K "Keeper") "check_known" p_Keeper_check_known (spF K (pr_k_check_known (K := K))) := by
  have g_is_name := w_is_name (P := P) (w := w) (base := base) T.toTx
  refine dfm_sem (N := n_Keeper_check_known) (k := 1) T.kp_cls T.m_check_known (fun _ _ _ _ _ _ us hl => match us, hl with | [_, _], _ => rfl) sc_Keeper_check_known (fun rs r h => by obtain ⟨S, n, rfl, _⟩ := h; rfl) ?_
  intro rs r h f cdv A outer s H E hr
  refine ⟨_, (pss_one (ps_if (PW.pt (pw_or (pt_not (pt_val (pe_df g_is_name hr (by omega) pass0 rfl (pa_cons (pv 1) pa_nil)))) (pw_or1 (pt_cmp (pc_dnotin (hu_of hr) (pv 1) (pe_fld (pv 0) rfl)) (by rfl))))) (pss_one ps_never) pss_nil)), ?_⟩
  obtain ⟨S, n, rfl, rfl, hn, hj⟩ := h
  exact ⟨_, semb_if (b := false) (semt_or (a := false) (b := false) (semt_not (b := true) (semt_B (sem_call (sema_cons (sem_var rfl) sema_nil) ⟨n, rfl, rfl, hn⟩))) fun _ => semt_B (sem_dnotin (sem_jobs T (sem_varG rfl)) (sem_var rfl) false hj)) (fun z => by cases z) fun _ => semb_next, .inr ⟨_, rfl, rfl⟩⟩
def pr_k_remaining : List Rk → Rk → Prop := fun rs r => ∃ (S : KS) (n : Str) (x : Job × Int), rs = [.g (KpAt K S), .d (.str n)] ∧ r = .d x.1.data ∧ NmOk n ∧ jget S.D n = some x
theorem w_k_remaining (T : Tk K mg) : DfM P w K mg base CX0 3 (He.ga K "Keeper") "remaining" p_Keeper_remaining (spF K (pr_k_remaining (K := K))) := by
  have g_Keeper_check_known := w_k_check_known (P := P) (w := w) (base := base) T
  refine dfm_sem (N := n_Keeper_remaining) (k := 2) T.kp_cls T.m_remaining (fun _ _ _ _ _ _ us hl => match us, hl with | [_, _], _ => rfl) sc_Keeper_remaining (fun rs r h => by obtain ⟨S, n, x, rfl, _⟩ := h; rfl) ?_
  intro rs r h f cdv A outer s H E hr
  refine ⟨_, (pss_cons (ps_expr (pe_dfm (pv 0) g_Keeper_check_known hr (by omega) pass0 (pa_cons (pv 1) pa_nil)))
    (pss_one (ps_ret (pe_ix ix_tup (pe_dget (hu_of hr) (pe_fld (pv 0) rfl) (pv 1) (fun _ _ => rfl)) pe_int (fun _ _ => rfl))))), ?_⟩
  obtain ⟨S, n, x, rfl, rfl, hn, hj⟩ := h
  refine ⟨.rt (.d x.1.data), ?_, .inl rfl⟩
  exact semb_seq (semb_expr (sem_meth (by decide) (sem_varG rfl) (sema_cons (sem_var rfl) sema_nil) ⟨S, n, rfl, rfl, hn, by rw [hj]; rfl⟩)) (semb_ret (sem_op (r1 := .d (entD x)) (sem_dget (sem_jobs T (sem_varG rfl)) (sem_var rfl) hj) sem_int (rvd_ixT rfl)))
def pr_k_after : List Rk → Rk → Prop := fun rs r => ∃ (S : KS) (n : Str) (c : List Nat) (k : Nat) (j : Job) (u v : Int), rs = [.g (KpAt K S), .d (.str n), .d (adD c)] ∧ r = .g (DictAt K (jput S.D n ((j.left c).tidy, u + v))) ∧
  NmOk n ∧ jget S.D n = some (j, u) ∧ c ∈ j.choices ∧ j.Ch c v ∧ Held k j ∧ S.D.length ≤ 1000 ∧ JOk (jput S.D n ((j.left c).tidy, u + v))
theorem w_k_after (T : Tk K mg) : DfM P w K mg base CX0 32 (He.ga K "Keeper") "after" p_Keeper_after (spF K (pr_k_after (K := K))) := by
  have g_Keeper_check_known := w_k_check_known (P := P) (w := w) (base := base) T
  have g_check_choice := w_check_choice (P := P) (w := w) (base := base) T.toTx
  have g_stepped := w_stepped (P := P) (w := w) (base := base) T.toTx
  have g_check_joint := w_check_joint (P := P) (w := w) (base := base) T.toTx
  refine dfm_sem (N := n_Keeper_after) (k := 31) T.kp_cls T.m_after (fun _ _ _ _ _ _ us hl => match us, hl with | [_, _, _], _ => rfl) sc_Keeper_after (fun rs r h => by obtain ⟨S, n, c, k, j, u, v, rfl, _⟩ := h; rfl) ?_
  intro rs r h f cdv A outer s H E hr
  refine ⟨_, (pss_cons (ps_expr (pe_dfm (pv 0) g_Keeper_check_known hr (by omega) pass0 (pa_cons (pv 1) pa_nil)))
    (pss_cons (ps_expr (pe_df g_check_choice hr (by omega) pass0 rfl (pa_cons (pe_ix ix_tup (pe_dget (hu_of hr) (pe_fld (pv 0) rfl) (pv 1) (fun _ _ => rfl)) pe_int (fun _ _ => rfl)) (pa_cons (pv 2) pa_nil))))
    (pss_cons (ps_set (i := 3) sc_Keeper_after.nd rfl (Or.inl rfl) (pe_df g_stepped hr (by omega) pass0 rfl (pa_cons (pe_fld (pv 0) rfl) (pa_cons (pv 1) (pa_cons (pv 2) pa_nil)))))
    (pss_cons (ps_expr (pe_df g_check_joint hr (by omega) pass0 rfl (pa_cons (pv 3) pa_nil)))
    (pss_one (ps_ret (pv 3))))))), ?_⟩
  obtain ⟨S, n, c, k, j, u, v, rfl, rfl, hn, hj, hc, hv, hh, hl, ok⟩ := h
  have h1 := hh.depth
  have h2 := hh.nodes
  refine ⟨.rt (.g (DictAt K (jput S.D n ((j.left c).tidy, u + v)))), ?_, .inl rfl⟩
  refine semb_seq (semb_expr (sem_meth (by decide) (sem_varG rfl) (sema_cons (sem_var rfl) sema_nil) ⟨S, n, rfl, rfl, hn, by rw [hj]; rfl⟩)) ?_
  refine semb_seq (semb_expr (sem_call (sema_cons (sem_op (r1 := .d (entD (j, u))) (sem_dget (sem_jobs T (sem_varG rfl)) (sem_var rfl) hj) sem_int (rvd_ixT (x := j.data) rfl)) (sema_cons (sem_var rfl) sema_nil)) ⟨j, c, rfl, rfl, hc, by omega, by omega⟩)) ?_
  refine semb_seq (semb_set (sem_call (sema_cons (sem_jobs T (sem_varG rfl)) (sema_cons (sem_var rfl) (sema_cons (sem_var rfl) sema_nil))) ⟨S.D, n, c, k, j, u, v, rfl, rfl, hj, hv, hh, hl⟩)) ?_
  exact semb_seq (semb_expr (sem_call (sema_cons (sem_varG rfl) sema_nil) ⟨_, rfl, rfl, ok⟩)) (semb_ret (sem_varG rfl))
end
end RP
end
section
set_option autoImplicit false
set_option maxHeartbeats 4000000
namespace RP
open PySem PySem.Spec PyProof.Rows L2
section
variable {P : Program} {w : World} {K : PySem.W.Frag} {mg : Str → Option Value} {base : Heap}
/-! ### the exception -/
def spNe (C : Addr) : Sp := fun vs H Q _ => ∃ (a : Addr) (l : Int), vs = [.ref a, .int l] ∧ H a = some (exo a C none) ∧ ∀ dx, H dx = none → dx ≠ a → Q .non (upd (upd H dx (exd dx [(("least" : Str), .int l)])) a (exo a C (some dx)))
theorem w_ne_init (T : Tk K mg) : ∃ f fd, FnOk P w K mg base CX0 1 f fd p_NotEnough___init (spNe (He.ga K "NotEnough")) ∧ PySem.W.findIn K (.ref (He.ga K "NotEnough")) "__init__" = some (some (.ref f)) ∧ PySem.W.typeIn K (.ref f) = some (.type "function") ∧ Binds K fd p_NotEnough___init [] := by
  obtain ⟨f, fd, F, iC, tI⟩ := T.ne_init
  refine ⟨f, fd, ?_, iC, tI, F.bindsN fun _ _ _ _ _ _ us hl => match us, hl with | [_, _], _ => rfl⟩
  refine F.ok sc_NotEnough___init (fun vs H Q E h => ?_) (fun cdv A outer s H vs Q E hr h => ?_)
  · obtain ⟨a, l, rfl, _⟩ := h
    rfl
  · refine ⟨_, (pss_cons (ps_expr (pe_reinit rfl T.ne_b T.ne_v (pa_cons (pv 0) (pa_cons pe_str pa_nil)))) (pss_one (ps_rst (pv 0) (pv 1)))), ?_⟩
    obtain ⟨a, l, rfl, ea, q⟩ := h
    exact ⟨_, rfl, a, _, _, rfl, (by decide), T.ne_c, ea, _, rfl, _, rfl, a, _, rfl, T.ne_c, T.ne_no, ea, fun dx h1 h2 => q dx h1 h2⟩
def spSafe (K : PySem.W.Frag) : Sp := fun vs H Q E => ∃ (c : Int) (D : JD) (v : V), vs = [.int c, v] ∧ DictAt K D H v ∧ JOk D ∧ (needD D ≤ c → ∀ H', Same H H' → Q .non H') ∧ (c < needD D → ∀ d H', Same H H' → E (.ref (He.ga K "NotEnough")) (some d) H')
theorem w_check_safe (T : Tk K mg) : Df P w K mg base (L2.CX P w) 21 "check_safe" p_check_safe (spSafe K) := by
  have g_need_in := w_need_in (P := P) (w := w) (base := base) T.toTx
  obtain ⟨fN, fdN, FN, iC, tI, bN⟩ := w_ne_init (P := P) (w := w) (base := base) T
  obtain ⟨f, fd, F, hm⟩ := T.f_check_safe
  refine ⟨f, fd, ?_, hm, F.kp, F.bindsN fun _ _ _ _ _ _ us hl => match us, hl with | [_, _], _ => rfl⟩
  refine F.ok sc_check_safe (fun vs H Q E h => ?_) (fun cdv A outer s H vs Q E hr h => ?_)
  · obtain ⟨c, D, v, rfl, _⟩ := h
    rfl
  · refine ⟨_, (pss_cons (ps_set (i := 2) sc_check_safe.nd rfl (Or.inl rfl) (pe_df g_need_in hr (by omega) pass0 rfl (pa_cons (pv 1) pa_nil)))
      (pss_one (ps_if (pt_cmpR op_gt (pv 2) (pv 0) (nomark _)) (pss_one (ps_raise rfl (takes_of rfl rfl rfl rfl) (pmk_re T.ne_c iC tI FN (hr.mono (by decide)) bN .nil pass0 rfl T.ne_g (pa_cons (pv 2) pa_nil)))) pss_nil))), ?_⟩
    obtain ⟨c, D, v, rfl, hD, ok, qn, qe⟩ := h
    have rp := rp_start (K := K) (N := n_check_safe) (H := H) (vs := [.int c, v]) (rs := [.d (.int c), .g (DictAt K D)]) ⟨.int c, dictAt_fst hD, trivial⟩
    refine semb_set (sem_call (sema_cons (sem_varG rfl) sema_nil) ⟨D, rfl, rfl, ok⟩) H _ H _ rp fun σ1 H1 rp1 => ?_
    have tst : SemT K [.d (.int c), .g (DictAt K D), .d (.int (needD D))] (tTest (tOp (rI0 fun i j => .bl (decide (j < i))) (tVar 2) (tVar 0))) (decide (c < needD D)) := semt_T (sem_op (sem_var rfl) (sem_var rfl) rvd_gt)
    refine tst H σ1 H1 _ rp1 fun H2 e2 => ?_
    have rp2 := rp1.mono e2
    by_cases hc : c < needD D
    · rw [decide_eq_true hc]
      refine iteT ?_
      obtain ⟨u, hu, hd⟩ := rp2.at_ 2 (.d (.int (needD D))) rfl (by intro z; cases z)
      have eu := Dt.isInt hd
      subst eu
      refine ⟨_, hu, (by simp), fun a ha => ⟨a, needD D, rfl, upd_same, fun dx h1 h2 => ⟨rfl, dx, [(("least" : Str), .int (needD D))], upd_same, by rw [upd_ne h2, upd_same], by rw [upd_ne h2] at h1; exact h1, ?_⟩⟩⟩
      refine qe hc dx _ fun b o hb => ?_
      have s12 := rp2.same b o hb
      have hba : b ≠ a := by
        rintro rfl
        rw [ha] at s12
        cases s12
      have hbd : b ≠ dx := by
        rintro rfl
        rw [upd_ne hba] at h1
        rw [h1] at s12
        cases s12
      rw [upd_ne hbd, del_ne hba, upd_ne hba, upd_ne hbd, upd_ne hba]
      exact s12
    · rw [decide_eq_false hc]
      exact iteF (qn (by omega) H2 rp2.same)
end
/-! ### a keeper that is changed -/
abbrev kFs (l : Int) (v : V) (r e : Addr) : List (Str × V) := [(("limit" : Str), .int l), (("jobs" : Str), v), (("rows" : Str), .ref r), (("earlier" : Str), .ref e)]
structure KpO (K : PySem.W.Frag) (H0 : Hp) (S : KS) (H : Hp) (a : Addr) : Prop where
  ex : ∃ dx v r e rs es, H a = some (.ins (He.ga K "Keeper") dx (kFs S.lim v r e)) ∧ DictAt K S.D H v ∧ H r = some (.lst rs) ∧ H e = some (.lst es) ∧ r ≠ e ∧ H0 r = none ∧ H0 e = none ∧ rs.length ≤ S.n ∧ es.length ≤ S.n
  old : H0 a = none
theorem kFs_none {l : Int} {v : V} {r e : Addr} {m : Str} (h : m ∉ kFields) : (kFs l v r e).lookup m = none := by
  simp only [kFields, List.mem_cons, List.not_mem_nil, or_false, not_or] at h
  have q : ∀ {a b : Str}, ¬ a = b → (a == b) = false := fun {a b} h => by simpa using h
  simp only [List.lookup, q h.1, q h.2.1, q h.2.2.1, q h.2.2.2]
theorem kFs_limit {l : Int} {v : V} {r e : Addr} : (kFs l v r e).lookup ("limit" : Str) = some (.int l) := by simp [List.lookup]
theorem kFs_jobs {l : Int} {v : V} {r e : Addr} : (kFs l v r e).lookup ("jobs" : Str) = some v := by
  have q : (("jobs" : Str) == ("limit" : Str)) = false := by decide
  simp [List.lookup, q]
theorem kFs_rows {l : Int} {v : V} {r e : Addr} : (kFs l v r e).lookup ("rows" : Str) = some (.ref r) := by
  have q : (("rows" : Str) == ("limit" : Str)) = false := by decide
  have q2 : (("rows" : Str) == ("jobs" : Str)) = false := by decide
  simp [List.lookup, q, q2]
theorem kFs_earlier {l : Int} {v : V} {r e : Addr} : (kFs l v r e).lookup ("earlier" : Str) = some (.ref e) := by
  have q : (("earlier" : Str) == ("limit" : Str)) = false := by decide
  have q2 : (("earlier" : Str) == ("jobs" : Str)) = false := by decide
  have q3 : (("earlier" : Str) == ("rows" : Str)) = false := by decide
  simp [List.lookup, q, q2, q3]
theorem put_limit {l c : Int} {v : V} {r e : Addr} : putF "limit" (.int c) (kFs l v r e) = kFs c v r e := by
  show (if (("limit" : Str) = ("limit" : Str)) then _ else _) = _
  rw [if_pos rfl]
theorem put_jobs {l : Int} {v x : V} {r e : Addr} : putF "jobs" x (kFs l v r e) = kFs l x r e := by
  show (if (("limit" : Str) = ("jobs" : Str)) then _ else _) = _
  rw [if_neg (by decide)]
  show _ :: (if (("jobs" : Str) = ("jobs" : Str)) then _ else _) = _
  rw [if_pos rfl]
section
variable {K : PySem.W.Frag} {mg : Str → Option Value} {H0 H H' : Hp} {S : KS} {a : Addr}
theorem KpO.mono (h : KpO K H0 S H a) (s : Same H H') : KpO K H0 S H' a := by
  obtain ⟨dx, v, r, e, rs, es, h1, h5, h7, h9, h10, h11, h12, h13, h14⟩ := h.ex
  exact ⟨⟨dx, v, r, e, rs, es, s _ _ h1, dictAt_nl (NL.of s) h5, s _ _ h7, s _ _ h9, h10, h11, h12, h13, h14⟩, h.old⟩
theorem KpO.at (h : KpO K H0 S H a) : KpAt K S H (.ref a) := by
  obtain ⟨dx, v, r, e, rs, es, h1, h5, _⟩ := h.ex
  exact ⟨a, dx, _, v, rfl, h1, kFs_limit, kFs_jobs, h5, fun m hm => kFs_none hm⟩
theorem dictAt_keep {D : JD} {v : V} (h : DictAt K D H v) (k : ∀ b u, H b = some u → (∃ xs, u = .tup xs) ∨ (∃ ks, u = .dK ks) → H' b = some u) : DictAt K D H' v := by
  obtain ⟨p, kvs, e, h1, h2⟩ := h
  exact ⟨p, kvs, e, k _ _ h1 (.inr ⟨_, rfl⟩), DkL.keep (fun b xs hb => k b _ hb (.inl ⟨_, rfl⟩)) h2⟩
end
section
variable {P : Program} {w : World} {K : PySem.W.Frag} {mg : Str → Option Value} {base : Heap}
def spChange (K : PySem.W.Frag) : Sp := fun vs H Q _ => ∃ (H0 : Hp) (a : Addr) (S : KS) (op v : V) (c : Int) (D : JD), vs = [.ref a, op, .int c, v] ∧ Same H0 H ∧ KpO K H0 S H a ∧ S.n ≤ 1000 ∧ DictAt K D H v ∧ ∀ H', Same H0 H' → KpO K H0 ⟨c, D, S.n + 1⟩ H' a → Q .non H'
theorem w_k_change (T : Tk K mg) : DfM P w K mg base CX0 1 (He.ga K "Keeper") "change" p_Keeper_change (spChange K) := by
  obtain ⟨f, fd, F, hm⟩ := T.m_change
  refine ⟨⟨f, fd, ?_, hm, F.bindsN fun _ _ _ _ _ _ us hl => match us, hl with | [_, _, _, _], _ => rfl⟩, T.kp_cls⟩
  refine F.ok sc_Keeper_change (fun vs H Q E h => ?_) (fun cdv A outer s H vs Q E hr h => ?_)
  · obtain ⟨H0, a, S, op, v, c, D, rfl, _⟩ := h
    rfl
  ·
    refine ⟨_, (pss_cons (ps_expr (pe_bm PySem.F.plainAttrs_list PySem.F.slot_list_append PySem.F.type_list_append mt_append (pe_fld (pv 0) rfl) (pa_cons (pe_tup (pa_cons (pe_fld (pv 0) rfl) (pa_cons (pe_fld (pv 0) rfl) pa_nil))) pa_nil)))
    (pss_cons (ps_expr (pe_bm PySem.F.plainAttrs_list PySem.F.slot_list_append PySem.F.type_list_append mt_append (pe_fld (pv 0) rfl) (pa_cons (pv 1) pa_nil)))
    (pss_cons (ps_fld (pv 0) (pv 2) rfl)
    (pss_one (ps_fld (pv 0) (pv 3) rfl))))), ?_⟩
    obtain ⟨H0, a, S, op, v, c, D, rfl, s0, kp, hn, hD, q⟩ := h
    obtain ⟨dx, v0, r, e, rs, es, h1, h5, h7, h9, h10, h11, h12, h13, h14⟩ := kp.ex
    have ar : r ≠ a := by
      rintro rfl
      rw [h1] at h7
      cases h7
    have ae : e ≠ a := by
      rintro rfl
      rw [h1] at h9
      cases h9
    have tne : ∀ {t b : Addr} {o : HO}, H t = none → H b = some o → b ≠ t := fun {t b o} ht hb z => by
      rw [z, ht] at hb
      cases hb
    refine ⟨_, rfl, a, _, dx, _, _, rfl, h1, T.kp_cls, T.no_earlier, kFs_earlier, .inl ⟨rfl, es, SqL.of h9⟩, _, rfl, a, _, dx, _, _, rfl, h1, T.kp_cls, T.no_limit, kFs_limit, _, rfl, a, _, dx, _, _, rfl, h1, T.kp_cls, T.no_jobs, kFs_jobs, (by show 2 ≤ sizeLine; decide), fun t ht => ?_⟩
    have at_ := tne ht h1
    have et := tne ht h9
    have rt := tne ht h7
    refine ⟨e, es, .ref t, rfl, rfl, by rw [upd_ne et]; exact h9, Nat.lt_of_le_of_lt h14 (Nat.lt_of_le_of_lt hn (by decide)), ?_⟩
    have g1 : ∀ o, (upd (upd H t (.tup [.int S.lim, v0])) e o) a = some (.ins (He.ga K "Keeper") dx (kFs S.lim v0 r e)) := fun o => by rw [upd_ne (Ne.symm ae), upd_ne at_]; exact h1
    have g7 : ∀ o, (upd (upd H t (.tup [.int S.lim, v0])) e o) r = some (.lst rs) := fun o => by rw [upd_ne h10, upd_ne rt]; exact h7
    refine ⟨_, rfl, a, _, dx, _, _, rfl, g1 _, T.kp_cls, T.no_rows, kFs_rows, .inl ⟨rfl, rs, SqL.of (g7 _)⟩, op, rfl, r, rs, op, rfl, rfl, g7 _, Nat.lt_of_le_of_lt h13 (Nat.lt_of_le_of_lt hn (by decide)), ?_⟩
    refine ⟨_, rfl, _, rfl, a, _, dx, _, rfl, by rw [upd_ne (Ne.symm ar)]; exact g1 _, T.kp_cls, T.no_limit, (by show 4 < 1000; decide), ?_⟩
    refine ⟨_, rfl, _, rfl, a, _, dx, _, rfl, upd_same, T.kp_cls, T.no_jobs, by rw [put_limit]; show 4 < 1000; decide, ?_⟩
    rw [put_limit, put_jobs]
    have keep : ∀ b u, H b = some u → b ≠ a → b ≠ r → b ≠ e → (upd (upd (upd (upd (upd H t (.tup [.int S.lim, v0])) e (.lst (es ++ [.ref t]))) r (.lst (rs ++ [op]))) a (.ins (He.ga K "Keeper") dx (kFs c v0 r e))) a (.ins (He.ga K "Keeper") dx (kFs c v r e))) b = some u := fun b u hb ba br be => by
      rw [upd_ne ba, upd_ne ba, upd_ne br, upd_ne be, upd_ne (tne ht hb)]
      exact hb
    refine q _ (fun b o hb => ?_) ⟨⟨dx, v, r, e, rs ++ [op], es ++ [.ref t], upd_same, ?_, ?_, ?_, h10, h11, h12, by rw [List.length_append]; show rs.length + 1 ≤ S.n + 1; omega, by rw [List.length_append]; show es.length + 1 ≤ S.n + 1; omega⟩, kp.old⟩
    · refine keep b o (s0 b o hb) ?_ ?_ ?_
      · rintro rfl
        rw [kp.old] at hb
        cases hb
      · rintro rfl
        rw [h11] at hb
        cases hb
      · rintro rfl
        rw [h12] at hb
        cases hb
    · refine dictAt_keep hD fun b u hb hu => keep b u hb ?_ ?_ ?_
      · rintro rfl
        rw [h1] at hb
        cases hb
        rcases hu with ⟨xs, z⟩ | ⟨xs, z⟩ <;> cases z
      · rintro rfl
        rw [h7] at hb
        cases hb
        rcases hu with ⟨xs, z⟩ | ⟨xs, z⟩ <;> cases z
      · rintro rfl
        rw [h9] at hb
        cases hb
        rcases hu with ⟨xs, z⟩ | ⟨xs, z⟩ <;> cases z
    · rw [upd_ne ar, upd_ne ar, upd_same]
    · rw [upd_ne ae, upd_ne ae, upd_ne (Ne.symm h10), upd_same]
/-! ### a new keeper -/
def spInit (K : PySem.W.Frag) : Sp := fun vs H Q _ => ∃ (H0 : Hp) (a dx : Addr) (c : Int), vs = [.ref a, .int c] ∧ Same H0 H ∧ H0 a = none ∧ H a = some (.ins (He.ga K "Keeper") dx []) ∧ limOk c ∧ ∀ H', Same H0 H' → KpO K H0 ⟨c, [], 0⟩ H' a → Q .non H'
theorem w_k_init (T : Tk K mg) : ∃ f fd, FnOk P w K mg base CX0 5 f fd p_Keeper___init (spInit K) ∧ Mk K (He.ga K "Keeper") f ∧ Binds K fd p_Keeper___init [] := by
  have g_check_limit := w_check_limit (P := P) (w := w) (base := base) T.toTx
  obtain ⟨f, fd, F, hM⟩ := T.m_init
  refine ⟨f, fd, ?_, hM, F.bindsN fun _ _ _ _ _ _ us hl => match us, hl with | [_, _], _ => rfl⟩
  refine F.ok sc_Keeper___init (fun vs H Q E h => ?_) (fun cdv A outer s H vs Q E hr h => ?_)
  · obtain ⟨H0, a, dx, c, rfl, _⟩ := h
    rfl
  ·
    refine ⟨_, (pss_cons (ps_expr (pe_df g_check_limit hr (by omega) pass0 rfl (pa_cons (pv 1) pa_nil)))
    (pss_cons (ps_fld (pv 0) (pv 1) rfl)
    (pss_cons (ps_fld (pv 0) pe_dnewK rfl)
    (pss_cons (ps_fld (pv 0) (pe_lst pa_nil) rfl)
    (pss_one (ps_fld (pv 0) (pe_lst pa_nil) rfl)))))), ?_⟩
    obtain ⟨H0, a, dx, c, rfl, s0, ha0, ha, hc, q⟩ := h
    refine ⟨.int c, rfl, [.d (.int c)], .d .none, ⟨c, rfl, rfl, hc⟩, ⟨.int c, trivial⟩, fun v1 H1 e1 _ => ?_⟩
    have ha1 := e1 _ _ ha
    refine ⟨_, rfl, _, rfl, a, _, dx, _, rfl, ha1, T.kp_cls, T.no_limit, (by decide), fun p hp => ?_⟩
    have ap : a ≠ p := by
      rintro rfl
      rw [upd_same] at hp
      cases hp
    rw [upd_ne (Ne.symm ap)] at hp
    refine ⟨_, rfl, a, _, dx, _, rfl, by rw [upd_ne ap, upd_same], T.kp_cls, T.no_jobs, (by have h1 := length_putF ("limit" : Str) (V.int c) []; simp only [List.length_nil] at h1; omega), (by show 0 ≤ sizeLine; decide), fun r hr2 => ?_⟩
    have ar : a ≠ r := by
      rintro rfl
      rw [upd_same] at hr2
      cases hr2
    rw [upd_ne (Ne.symm ar)] at hr2
    have pr : p ≠ r := by
      rintro rfl
      rw [upd_same] at hr2
      cases hr2
    rw [upd_ne (Ne.symm pr), upd_ne (Ne.symm ar)] at hr2
    refine ⟨_, rfl, a, _, dx, _, rfl, by rw [upd_ne ar, upd_same], T.kp_cls, T.no_rows, (by have h1 := length_putF ("limit" : Str) (V.int c) []; have h2 := length_putF ("jobs" : Str) (V.ref p) (putF "limit" (V.int c) []); simp only [List.length_nil] at h1; omega), (by show 0 ≤ sizeLine; decide), fun e he => ?_⟩
    have ae : a ≠ e := by
      rintro rfl
      rw [upd_same] at he
      cases he
    rw [upd_ne (Ne.symm ae)] at he
    have re : r ≠ e := by
      rintro rfl
      rw [upd_same] at he
      cases he
    rw [upd_ne (Ne.symm re), upd_ne (Ne.symm ae)] at he
    have pe : p ≠ e := by
      rintro rfl
      rw [upd_same] at he
      cases he
    rw [upd_ne (Ne.symm pe), upd_ne (Ne.symm ae)] at he
    refine ⟨_, rfl, a, _, dx, _, rfl, by rw [upd_ne ae, upd_same], T.kp_cls, T.no_earlier, (by have h1 := length_putF ("limit" : Str) (V.int c) []; have h2 := length_putF ("jobs" : Str) (V.ref p) (putF "limit" (V.int c) []); have h3 := length_putF ("rows" : Str) (V.ref r) (putF "jobs" (V.ref p) (putF "limit" (V.int c) [])); simp only [List.length_nil] at h1; omega), ?_⟩
    have s1 : Same H0 H1 := s0.trans e1
    have f1 : ∀ {b : Addr}, H1 b = none → H0 b = none := fun {b} hb => s1.free hb
    refine q _ (fun b o hb => ?_) ⟨⟨dx, .ref p, r, e, [], [], ?_, ⟨p, [], rfl, ?_, trivial⟩, ?_, ?_, re, f1 hr2, f1 he, Nat.le_refl _, Nat.le_refl _⟩, ha0⟩
    · have hb1 := s1 b o hb
      have ba : b ≠ a := by
        rintro rfl
        rw [ha0] at hb
        cases hb
      have nb : ∀ {c : Addr}, H1 c = none → b ≠ c := fun {c} hc z => by
        rw [z, hc] at hb1
        cases hb1
      rw [upd_ne ba, upd_ne (nb he), upd_ne ba, upd_ne (nb hr2), upd_ne ba, upd_ne (nb hp), upd_ne ba]
      exact hb1
    · rw [upd_same]
      rfl
    · rw [upd_ne (Ne.symm ap), upd_ne pe, upd_ne (Ne.symm ap), upd_ne pr, upd_ne (Ne.symm ap), upd_same]
    · rw [upd_ne (Ne.symm ar), upd_ne re, upd_ne (Ne.symm ar), upd_same]
    · rw [upd_ne (Ne.symm ae), upd_same]
end
end RP
end
section
set_option autoImplicit false
set_option maxHeartbeats 4000000
namespace RP
open PySem PySem.Spec PyProof.Rows L2
section
variable {X : Cx} {k j : Nat} {x : Str} {ps : List Str} {sp : Sp} {e : Expr} {es : List Expr} {t : TA} {p pos : Pos} {W : WX}
theorem pe_dfS (D : Df X.prog X.w X.K X.mg X.base (L2.CX X.prog X.w) k x ps sp) (hr : Room j X.A) (hkj : k ≤ j) (tk : Takes X W) (hg : Gl X x) (ha : PA X (e :: es) t)
    (hdb : (x == ("__debug__" : Str)) = false := by decide) (he : starEach (e :: es) X.env = (false, eval e X.env) :: starEach es X.env := by rfl) (hpl : (backTo pos (starEach es X.env)).any (·.1) = false := by rfl) :
    PE X (.Call (.Name x p) (e :: es) [] pos) (tCallS sp (WE W) t) := by
  obtain ⟨f, fd, F, hm, hk, hb⟩ := D.ex
  exact pe_callS F (hr.mono hkj) hg hm hk hb (fun σ => passAt tk σ) ha hdb he hpl
end
section
variable {K : PySem.W.Frag} {mg : Str → Option Value} {Γ : List Sl} {te ta : TE} {tr : TA} {S : KS} {H H' : Hp} {x : V} {a : Addr}
/-- this very keeper -/
def KpA (K : PySem.W.Frag) (a : Addr) (S : KS) (H : Hp) (x : V) : Prop := x = .ref a ∧ KpAt K S H x
theorem sem_imp {R R' : Hp → V → Prop} (h : Sem K Γ te (.g R)) (i : ∀ H v, R H v → R' H v) : Sem K Γ te (.g R') := fun H0 σ H Q rp q =>
  h H0 σ H _ rp fun v H1 e1 a1 => q v H1 e1 fun G g => i G v (a1 G g)
theorem sem_varK {i : Nat} (h : Γ[i]? = some (.g (KpA K a S))) : Sem K Γ (tVar i) (.g (KpAt K S)) := sem_imp (sem_varG h) fun _ _ q => q.2
theorem kpA_fst {H0 : Hp} (h : KpO K H0 S H a) : Fst (KpA K a S) H (.ref a) := fun _ n => ⟨rfl, kpAt_nl n h.at⟩
/-- check_safe(self.limit, jobs) -/
theorem raw_safe (T : Tk K mg) {H0 : Hp} {D : JD} {uS : TS} {E : Ends} {W : WX} (h0 : Γ[0]? = some (.g (KpA K a S))) (h3 : Γ[3]? = some (.g (DictAt K D))) (ok : JOk D)
    (yes : needD D ≤ S.lim → RawS K H0 Γ uS E) (no : S.lim < needD D → ∀ σ d H', Same H0 H' → W (.ref (He.ga K "NotEnough")) (some d) σ H') :
    RawS K H0 Γ (tSeq (tDrop (tCallS (spSafe K) (WE W) (tCons (tFld K (tVar 0) "limit") (tCons (tVar 3) tNil)))) uS) E := fun σ H rp => by
    show tFld K (tVar 0) "limit" σ H fun y H1 => tVar 3 σ H1 fun z H2 => spSafe K [y, z] H2 (fun _ H' => uS E σ H') (WE W σ)
    refine sem_limit T (sem_varK h0) H0 σ H _ rp fun v H1 e1 a1 => ?_
    have ev := Dt.isInt a1
    subst ev
    have rp1 := rp.mono e1
    refine sem_varG h3 H0 σ H1 _ rp1 fun u H2 e2 a2 => ?_
    have rp2 := rp1.mono e2
    exact ⟨S.lim, D, u, rfl, a2.now, ok, fun hle H3 e3 => yes hle σ H3 (rp2.mono e3), fun hgt d H3 e3 => no hgt σ d H3 (rp2.same.trans e3)⟩
/-- self.change((word, name, e), self.limit, jobs) -/
theorem raw_change (T : Tk K mg) {H0 G0 : Hp} {D : JD} {uS : TS} {E : Ends} {z n : Str} {d : PyData} {Ex : XK} (h0 : Γ[0]? = some (.g (KpA K a S))) (h1 : Γ[1]? = some (.d (.str n))) (h2 : Γ[2]? = some (.d d)) (h3 : Γ[3]? = some (.g (DictAt K D)))
    {σ : L2.St} {H : Hp} (rp : Rp K G0 Γ σ H) (s0 : Same H0 H) (kp : KpO K H0 S H a) (hn : S.n ≤ 1000)
    (q : ∀ H', Same H0 H' → KpO K H0 ⟨S.lim, D, S.n + 1⟩ H' a → uS E σ H') :
    tSeq (tDrop (tMeth (He.ga K "Keeper") "change" (spChange K) [] Ex (tVar 0) (tCons (tTup (tCons (tC (.str z)) (tCons (tVar 1) (tCons (tVar 2) tNil)))) (tCons (tFld K (tVar 0) "limit") (tCons (tVar 3) tNil))))) uS E σ H := by
  obtain ⟨x0, g0, f0⟩ := rp.at_ 0 _ h0 (by intro z; cases z)
  obtain ⟨x1, g1, f1⟩ := rp.at_ 1 _ h1 (by intro z; cases z)
  obtain ⟨x2, g2, f2⟩ := rp.at_ 2 _ h2 (by intro z; cases z)
  obtain ⟨x3, g3, f3⟩ := rp.at_ 3 _ h3 (by intro z; cases z)
  obtain ⟨e0, _⟩ := Fst.now f0
  subst e0
  obtain ⟨dx, v0, r, e, rs, es, k1, _⟩ := kp.ex
  refine ⟨_, g0, a, dx, _, rfl, k1, kFs_none (by decide), x1, g1, x2, g2, (by show 3 ≤ sizeLine; decide), fun t ht => ?_⟩
  have sm : Same H (upd H t (.tup [.str z, x1, x2])) := same_new ht
  refine ⟨_, g0, a, _, dx, _, _, rfl, sm _ _ k1, T.kp_cls, T.no_limit, kFs_limit, x3, g3, H0, a, S, _, x3, S.lim, D, rfl, s0.trans sm, kp.mono sm, hn, dictAt_nl (NL.of sm) (Fst.now f3), fun H' s' kp' => q H' s' kp'⟩
end
section
variable {P : Program} {w : World} {K : PySem.W.Frag} {mg : Str → Option Value} {base : Heap}
def spAdmit (K : PySem.W.Frag) : Sp := fun vs H Q E => ∃ (H0 : Hp) (a : Addr) (S : KS) (n : Str) (k : Nat) (j : Job) (jv : V), vs = [.ref a, .str n, jv] ∧ Same H0 H ∧ KpO K H0 S H a ∧ Dt K H jv j.data ∧ NmOk n ∧ jget S.D n = none ∧ Held k j ∧ S.n ≤ 900 ∧ S.D.length ≤ 10 ∧ JOk (jput S.D n (j, 0)) ∧
  (needD (jput S.D n (j, 0)) ≤ S.lim → ∀ H', Same H0 H' → KpO K H0 ⟨S.lim, jput S.D n (j, 0), S.n + 1⟩ H' a → Q .non H') ∧ (S.lim < needD (jput S.D n (j, 0)) → ∀ d H', Same H0 H' → E (.ref (He.ga K "NotEnough")) (some d) H')
theorem w_k_admit (T : Tk K mg) : DfM P w K mg base (L2.CX P w) 33 (He.ga K "Keeper") "admit" p_Keeper_admit (spAdmit K) := by
  have g_is_name := w_is_name (P := P) (w := w) (base := base) T.toTx
  have g_check_job := w_check_job (P := P) (w := w) (base := base) T.toTx
  have g_check_joint := w_check_joint (P := P) (w := w) (base := base) T.toTx
  have g_check_safe := w_check_safe (P := P) (w := w) (base := base) T
  have g_Keeper_change := w_k_change (P := P) (w := w) (base := base) T
  obtain ⟨f, fd, F, hm⟩ := T.m_admit
  refine ⟨⟨f, fd, ?_, hm, F.bindsN fun _ _ _ _ _ _ us hl => match us, hl with | [_, _, _], _ => rfl⟩, T.kp_cls⟩
  refine F.ok (k := 32) sc_Keeper_admit (fun vs H Q E h => ?_) (fun cdv A outer s H vs Q E hr h => ?_)
  · obtain ⟨H0, a, S, n, k, j, jv, rfl, _⟩ := h
    rfl
  ·
    refine ⟨_, (pss_cons (ps_if (pt_not (pt_val (pe_df g_is_name hr (by omega) pass0 rfl (pa_cons (pv 1) pa_nil)))) (pss_one ps_never) pss_nil)
    (pss_cons (ps_if (pt_cmp (pc_din (hu_of hr) (pv 1) (pe_fld (pv 0) rfl)) (by rfl)) (pss_one ps_never) pss_nil)
    (pss_cons (ps_expr (pe_df g_check_job hr (by omega) pass0 rfl (pa_cons (pv 2) pa_nil)))
    (pss_cons (ps_if (pt_cmpR op_ge (pe_callB call_lenD rfl T.b_len (by decide +kernel) (pa_cons (pe_fld (pv 0) rfl) pa_nil)) (pe_gint rfl T.c_MAX_JOBS) (nomark _)) (pss_one ps_never) pss_nil)
    (pss_cons (ps_set (i := 3) sc_Keeper_admit.nd rfl (Or.inl rfl) (pe_callTy call_dictD rfl T.b_dict (by decide +kernel) (pa_cons (pe_fld (pv 0) rfl) pa_nil)))
    (pss_cons (ps_dput (hu_of hr) (pv 3) (pv 1) (pe_tup (pa_cons (pv 2) (pa_cons pe_int pa_nil))) rfl)
    (pss_cons (ps_expr (pe_df g_check_joint hr (by omega) pass0 rfl (pa_cons (pv 3) pa_nil)))
    (pss_cons (ps_expr (pe_dfS g_check_safe hr (by omega) (takes_of rfl rfl rfl rfl) rfl (pa_cons (pe_fld (pv 0) rfl) (pa_cons (pv 3) pa_nil))))
    (pss_one (ps_expr (pe_dfm (pv 0) g_Keeper_change hr (by omega) pass0 (pa_cons (pe_tup (pa_cons pe_str (pa_cons (pv 1) (pa_cons (pv 2) pa_nil)))) (pa_cons (pe_fld (pv 0) rfl) (pa_cons (pv 3) pa_nil)))))))))))))), ?_⟩
    obtain ⟨H0, a, S, n, k, j, jv, rfl, s0, kp, hj, hn, hno, hh, hS, hl, ok, qy, qn⟩ := h
    have rp := rp_start (K := K) (N := n_Keeper_admit) (H := H) (vs := [.ref a, .str n, jv]) (rs := [.g (KpA K a S), .d (.str n), .d j.data]) ⟨kpA_fst kp, .str n, hj, trivial⟩
    refine raw_seq (K := K) (H0 := H) (semb_if (b := false) (semt_not (b := true) (semt_B (sem_call (sema_cons (sem_var rfl) sema_nil) ⟨n, rfl, rfl, hn⟩))) (fun z => by cases z) fun _ => semb_next) ?_ _ H rp
    refine raw_seq (semb_if (b := false) (semt_B (sem_din (sem_jobs T (sem_varK rfl)) (sem_var rfl) false (by rw [hno]; rfl))) (fun z => by cases z) fun _ => semb_next) ?_
    refine raw_seq (semb_expr (sem_call (sema_cons (sem_var rfl) sema_nil) ⟨j, rfl, rfl, hh.ok⟩)) ?_
    refine raw_seq (semb_if (b := false) (semt_T (sem_op (sem_cb (sema_cons (sem_jobs T (sem_varK rfl)) sema_nil) cvd_lenD) sem_int (rvd_ge' (decide_eq_false (by omega))))) (fun z => by cases z) fun _ => semb_next) ?_
    refine raw_copyput (k := 3) (x := (j, 0)) (by simp [slots, n_Keeper_admit]) (sem_jobs T (sem_varK rfl)) (sem_tup (ds := [_, _]) (sema_cons (sem_var rfl) (sema_cons sem_int sema_nil)) (by simp)) (sem_var rfl) (by omega) ?_
    refine raw_seq (semb_expr (sem_call (sema_cons (sem_varG rfl) sema_nil) ⟨_, rfl, rfl, ok⟩)) ?_
    refine raw_safe T rfl rfl ok (fun hle σ H2 rp2 => ?_) fun hgt σ d H' s' => qn hgt d H' (s0.trans s')
    have := raw_change (uS := tNext) T rfl rfl rfl rfl rp2 (s0.trans rp2.same) (kp.mono rp2.same) (Nat.le_trans hS (by decide)) (E := { nx := fun _ H' => Q .non H', rt := Q }) (z := "admit") (Ex := E0) fun H' s' kp' => qy hle H' s' kp'
    exact this
def spGrant (K : PySem.W.Frag) : Sp := fun vs H Q E => ∃ (H0 : Hp) (a : Addr) (S : KS) (n : Str) (c : List Nat) (k : Nat) (j : Job) (u v : Int) (cv : V), vs = [.ref a, .str n, cv] ∧ Same H0 H ∧ KpO K H0 S H a ∧ Dt K H cv (adD c) ∧ NmOk n ∧ jget S.D n = some (j, u) ∧ c ∈ j.choices ∧ j.Ch c v ∧ Held k j ∧ S.n ≤ 900 ∧ S.D.length ≤ 10 ∧
  JOk (jput S.D n ((j.left c).tidy, u + v)) ∧ jget (jput S.D n ((j.left c).tidy, u + v)) n = some ((j.left c).tidy, u + v) ∧
  (needD (jput S.D n ((j.left c).tidy, u + v)) ≤ S.lim → ∀ H', Same H0 H' → KpO K H0 ⟨S.lim, jput S.D n ((j.left c).tidy, u + v), S.n + 1⟩ H' a → Q (.int (u + v - u)) H') ∧ (S.lim < needD (jput S.D n ((j.left c).tidy, u + v)) → ∀ d H', Same H0 H' → E (.ref (He.ga K "NotEnough")) (some d) H')
theorem w_k_grant (T : Tk K mg) : DfM P w K mg base (L2.CX P w) 34 (He.ga K "Keeper") "grant" p_Keeper_grant (spGrant K) := by
  have g_check_safe := w_check_safe (P := P) (w := w) (base := base) T
  have g_Keeper_after := w_k_after (P := P) (w := w) (base := base) T
  have g_Keeper_change := w_k_change (P := P) (w := w) (base := base) T
  obtain ⟨f, fd, F, hm⟩ := T.m_grant
  refine ⟨⟨f, fd, ?_, hm, F.bindsN fun _ _ _ _ _ _ us hl => match us, hl with | [_, _, _], _ => rfl⟩, T.kp_cls⟩
  refine F.ok (k := 33) sc_Keeper_grant (fun vs H Q E h => ?_) (fun cdv A outer s H vs Q E hr h => ?_)
  · obtain ⟨H0, a, S, n, c, k, j, u, v, cv, rfl, _⟩ := h
    rfl
  ·
    refine ⟨_, (pss_cons (ps_set (i := 3) sc_Keeper_grant.nd rfl (Or.inl rfl) (pe_dfm (pv 0) g_Keeper_after hr (by omega) pass0 (pa_cons (pv 1) (pa_cons (pv 2) pa_nil))))
    (pss_cons (ps_expr (pe_dfS g_check_safe hr (by omega) (takes_of rfl rfl rfl rfl) rfl (pa_cons (pe_fld (pv 0) rfl) (pa_cons (pv 3) pa_nil))))
    (pss_cons (ps_set (i := 4) sc_Keeper_grant.nd rfl (Or.inl rfl) (pe_op op_sub (pe_ix ix_tup (pe_dget (hu_of hr) (pv 3) (pv 1) (fun _ _ => rfl)) pe_int (fun _ _ => rfl)) (pe_ix ix_tup (pe_dget (hu_of hr) (pe_fld (pv 0) rfl) (pv 1) (fun _ _ => rfl)) pe_int (fun _ _ => rfl))))
    (pss_cons (ps_expr (pe_dfm (pv 0) g_Keeper_change hr (by omega) pass0 (pa_cons (pe_tup (pa_cons pe_str (pa_cons (pv 1) (pa_cons (pv 2) pa_nil)))) (pa_cons (pe_fld (pv 0) rfl) (pa_cons (pv 3) pa_nil)))))
    (pss_one (ps_ret (pv 4))))))), ?_⟩
    obtain ⟨H0, a, S, n, c, k, j, u, v, cv, rfl, s0, kp, hcv, hn, hj, hc, hv, hh, hS, hl, ok, hg, qy, qn⟩ := h
    have rp := rp_start (K := K) (N := n_Keeper_grant) (H := H) (vs := [.ref a, .str n, cv]) (rs := [.g (KpA K a S), .d (.str n), .d (adD c)]) ⟨kpA_fst kp, .str n, hcv, trivial⟩
    refine raw_seq (K := K) (H0 := H) (semb_set (sem_meth (by decide) (sem_varK rfl) (sema_cons (sem_var rfl) (sema_cons (sem_var rfl) sema_nil)) ⟨S, n, c, k, j, u, v, rfl, rfl, hn, hj, hc, hv, hh, by omega, ok⟩)) ?_ _ H rp
    refine raw_safe T rfl rfl ok (fun hle => ?_) fun hgt σ d H' s' => qn hgt d H' (s0.trans s')
    refine raw_seq (semb_set (r := .d (.int (u + v - u))) (sem_op (sem_op (r1 := .d (entD ((j.left c).tidy, u + v))) (sem_dget (sem_varG rfl) (sem_var rfl) hg) sem_int (rvd_ixT (x := .int (u + v)) rfl)) (sem_op (r1 := .d (entD (j, u))) (sem_dget (sem_jobs T (sem_varK rfl)) (sem_var rfl) hj) sem_int (rvd_ixT (x := .int u) rfl)) rvd_sub)) fun σ H2 rp2 => ?_
    refine raw_change T rfl rfl rfl rfl rp2 (s0.trans rp2.same) (kp.mono rp2.same) (Nat.le_trans hS (by decide)) fun H' s' kp' => ?_
    obtain ⟨x4, g4, f4⟩ := rp2.at_ 4 (.d (.int (u + v - u))) rfl (by intro z; cases z)
    have e4 := Dt.isInt f4
    subst e4
    exact ⟨_, g4, qy hle H' s' kp'⟩
end
end RP
end
section
set_option autoImplicit false
set_option maxHeartbeats 4000000
namespace RP
open PySem PySem.Spec PyProof.Rows L2
/-! ### keepers that are equal -/
def SameD (K : PySem.W.Frag) (H : Hp) (x y : V) : Prop := ∃ d, Dp K H x d ∧ Dp K H y d ∧ SeqAt.shaped d = true ∧ PyData.eqv d d = true
def rEqJ (K : PySem.W.Frag) : R2 := fun x y H Q => EqR K H (SameD K H) x y ∧ Q (.bl true) H
section
variable {X : Cx}
theorem op_eqJ (hu : X.A.units + 65 < cLine) : OpR X (compareOp .Eq) (rEqJ X.K) := by
  intro pins s σ H x y v u Q I rx ry h
  obtain ⟨h, q⟩ := h
  refine eqR_run I (A := X.A) (by omega) (fun x y v u hxy rx ry => ?_) h rx ry _ _ ⟨.bl true, H, I, rfl, q⟩
  obtain ⟨d, h1, h2, hs, he⟩ := hxy
  obtain ⟨as, r1⟩ := Dp.reads I d x v h1 rx
  obtain ⟨bs, r2⟩ := Dp.reads I d y u h2 ry
  have hd := hs
  unfold SeqAt.shaped at hd
  rw [Bool.and_eq_true] at hd
  have hdd := of_decide_eq_true hd.2
  have hp := PyData.plain_of_canLay0 d hd.1
  have := SeqAt.eqAt_plain d d X.A.in1 s v u as bs r1 r2 hp hp (by show X.A.units + 1 + min d.depth d.depth < cLine; omega)
  rw [he] at this
  exact this.eqP
end
section
variable {K : PySem.W.Frag} {H : Hp} {D : JD}
theorem ent_shaped {x : Job × Int} (h : x.1.depth ≤ 28) : SeqAt.shaped (entD x) = true ∧ PyData.eqv (entD x) (entD x) = true := by
  have h1 := depth_data x.1
  have h2 := lay_data x.1
  have h3 : PyData.eqv x.1.data x.1.data = true := by rw [eqv_job]; exact decide_eq_true rfl
  constructor
  · unfold SeqAt.shaped entD
    simp only [PyData.canLay0, PyData.canLayAll0, h2, PyData.depth, PyData.depthAll, Bool.true_and, Bool.and_true]
    exact decide_eq_true (by omega)
  · unfold entD
    simp only [PyData.eqv, PyData.eqvAll, h3, Bool.true_and, Bool.and_true]
    simp
theorem rvd_eqJ (hd : ∀ e ∈ D, e.2.1.depth ≤ 28) (nd : (D.map (·.1)).Nodup) : RvD K (rEqJ K) (.g (DictAt K D)) (.g (DictAt K D)) (.d (.bool true)) := fun H v w Q a b q => by
  obtain ⟨p, ks, e1, h1, h2⟩ := a.now
  obtain ⟨p2, ls, e2, h3, h4⟩ := b.now
  refine ⟨.inr ⟨p, p2, ks, ls, e1, e2, h1, h3, by rw [h2.length, h4.length], ?_⟩, q _ H (Same.refl H) (.bl _)⟩
  have key : ∀ {D : JD} {ks ls : List (Key × V)}, DkL K H ks D → DkL K H ls D → (D.map (·.1)).Nodup → (∀ e ∈ D, e.2.1.depth ≤ 28) → ∀ p ∈ ks, ∃ u, valV ls p.1 = some u ∧ SameD K H p.2 u := by
    intro D
    induction D with
    | nil =>
      intro ks ls h1 _ _ _ p hp
      match ks, h1 with
      | [], _ => cases hp
    | cons d D ih =>
      intro ks ls h1 h2 hn hd p hp
      match ks, ls, h1, h2 with
      | k :: ks, l :: ls, h1, h2 =>
        have sh := ent_shaped (hd d List.mem_cons_self)
        rcases List.mem_cons.mp hp with z | z
        · subst z
          exact ⟨l.2, valV_pos (by rw [h1.1, h2.1]), entD d.2, h1.2.1.dp, h2.2.1.dp, sh.1, sh.2⟩
        · rw [List.map_cons] at hn
          have hn' := List.nodup_cons.mp hn
          obtain ⟨u, a, b⟩ := ih h1.2.2 h2.2.2 hn'.2 (fun e he => hd e (List.mem_cons_of_mem _ he)) p z
          refine ⟨u, ?_, b⟩
          have ne : ¬ l.1 = p.1 := fun e => by
            have hk := h1.2.2.keys
            have hm : p.1 ∈ ks.map (·.1) := List.mem_map_of_mem z
            rw [hk, ← e, h2.1] at hm
            obtain ⟨x, hx, ex⟩ := List.mem_map.mp hm
            rw [Sum.inr.inj ex] at hx
            exact hn'.1 hx
          rw [valV_neg ne]
          exact a
  exact key h2 h4 nd hd
end
section
variable {P : Program} {w : World} {K : PySem.W.Frag} {mg : Str → Option Value} {base : Heap}
def RKeep (K : PySem.W.Frag) (a b : Addr) (H : Hp) : Prop := ∃ S1 S2 : KS, KpAt K S1 H (.ref a) ∧ KpAt K S2 H (.ref b) ∧ S1.lim = S2.lim ∧ S1.D = S2.D ∧ (∀ e ∈ S1.D, e.2.1.depth ≤ 28) ∧ (S1.D.map (·.1)).Nodup
theorem cvd_isiK (T : Tk K mg) {S : KS} : CvD K (rIsi K) [.g (KpAt K S), .g fun _ x => x = .ref (He.ga K "Keeper")] (.d (.bool true)) := fun H vs Q a q => by
  match vs, a with
  | [v, u], ⟨h1, h2, _⟩ =>
    have e : u = .ref (He.ga K "Keeper") := h2.now
    subst e
    obtain ⟨a, dx, fs, x, e, h3, _⟩ := h1.now
    subst e
    refine ⟨_, _, .ref (He.ga K "Keeper"), .ref (He.ga K "Keeper"), true, rfl, .own _, .base (.ins h3 T.kp_cls T.kp_c1 T.kp_c2 T.kp_c3 T.kp_c4), ?_, q _ H (Same.refl H) (.bl _)⟩
    unfold PySem.W.kitOne
    rw [if_pos (by simp)]
theorem w_k_eq (T : Tk K mg) : ∃ f fd, FnOk P w K mg base CX0 2 f fd p_Keeper___eq (spEq (RKeep K)) ∧ Meth K (He.ga K "Keeper") "__eq__" f ∧ Binds K fd p_Keeper___eq [] := by
  obtain ⟨f, fd, F, hm⟩ := T.m_eq
  refine ⟨f, fd, ?_, hm, F.bindsN fun _ _ _ _ _ _ us hl => match us, hl with | [_, _], _ => rfl⟩
  refine F.ok (k := 1) sc_Keeper___eq (fun vs H Q E h => ?_) (fun cdv A outer s H vs Q E hr h => ?_)
  · obtain ⟨a, b, rfl, _⟩ := h
    rfl
  ·
    refine ⟨_, (pss_one (ps_ret (pe_and (pe_callB call_isi rfl T.b_isinstance (by decide +kernel) (pa_cons (pv 1) (pa_cons (pe_gref rfl T.kp_g) pa_nil))) (pe_and (pe_cmpR op_eq (pe_fld (pv 0) rfl) (pe_fld (pv 1) rfl) (nomark _)) (pe_one (pe_cmpR (op_eqJ (room65 hr)) (pe_fld (pv 0) rfl) (pe_fld (pv 1) rfl) (nomark _))))))), ?_⟩
    obtain ⟨a, b, rfl, ⟨S1, S2, k1, k2, e1, e2, hd, hn⟩, q⟩ := h
    have rp := rp_start (K := K) (N := n_Keeper___eq) (H := H) (vs := [.ref a, .ref b]) (rs := [.g (KpAt K S1), .g (KpAt K S2)]) ⟨kpAt_fst k1, kpAt_fst k2, trivial⟩
    have v0 : Sem K [.g (KpAt K S1), .g (KpAt K S2)] (tVar 0) (.g (KpAt K S1)) := sem_varG rfl
    have v1 : Sem K [.g (KpAt K S1), .g (KpAt K S2)] (tVar 1) (.g (KpAt K S2)) := sem_varG rfl
    have j1 := sem_jobs T v1
    rw [← e2] at j1
    have body : SemB K [.g (KpAt K S1), .g (KpAt K S2)] _ (.rt (.d (.bool (true && (true && true))))) := semb_ret (sem_and (sem_cb (sema_cons v1 (sema_cons (r := .g fun _ x => x = .ref (He.ga K "Keeper")) (fun _ _ H _ _ q => q _ H (Same.refl H) fun _ _ => rfl) sema_nil)) (cvd_isiK T)) fun _ => sem_and (sem_op (sem_limit T v0) (sem_limit T v1) (rvd_eqI' (decide_eq_true e1))) fun _ => sem_op (sem_jobs T v0) j1 (rvd_eqJ hd hn))
    refine body H _ H _ rp fun v H' s' r' => ?_
    have ev := Dt.isBool r'
    subst ev
    exact q H' s'
end
section
variable {X : Cx} {mg : Str → Option Value}
/-- a == b, two keepers -/
theorem op_eqK (T : Tk X.K X.mg) (hr : Room 2 X.A) : OpR X (compareOp .Eq) (rEqG (DIns (He.ga X.K "Keeper") (RKeep X.K))) := by
  obtain ⟨f, fd, F, hm, hb⟩ := w_k_eq (P := X.prog) (w := X.w) (base := X.base) T
  exact op_eqG (rcG_ins (E := E0) F hm.at_ hm.fn hb pass0) hr
end
end RP
end
section
set_option autoImplicit false
set_option maxHeartbeats 2000000
namespace RP
open PySem PySem.Spec PyProof.Rows L2
def potL (i j k : Int) : List PyData := [.int i, .int j, .int k]
def PotAt (H : Hp) (z : Addr) : Prop := ∃ i j k : Int, H z = some (.lst [.int i, .int j, .int k])
/-- all but the pot at z stands -/
structure SZ (z : Addr) (H H' : Hp) : Prop where
  keep : ∀ b u, b ≠ z → H b = some u → H' b = some u
  free : ∀ b, H' b = none → H b = none
  src : ∃ vs, H z = some (.lst vs)
structure PS (K : PySem.W.Frag) (H0 : Hp) (Γ : List Sl) (p : Nat) (σ : L2.St) (H : Hp) (z : Addr) : Prop where
  ex : ∃ i j k, Rp K H0 (Γ.set p (.l (potL i j k))) σ H
  hz : σ[p]? = some (some (.ref z))
  pl : p < Γ.length
/-- values over changes of the pot -/
def Rk.isV : Rk → Bool
  | .l _ => true
  | .s _ => true
  | _ => false
def AgZ (z : Addr) (K : PySem.W.Frag) (H : Hp) (r : Rk) (v : V) : Prop := Ag K H r v ∧ (r.isV = true → v ≠ .ref z)
def ResZ (z : Addr) (K : PySem.W.Frag) (H H' : Hp) (r : Rk) (v : V) : Prop := Res K H H' r v ∧ (r.isV = true → v ≠ .ref z)
def AgLZ (z : Addr) (K : PySem.W.Frag) (H : Hp) : List V → List Rk → Prop
  | [], [] => True
  | v :: vs, r :: rs => AgZ z K H r v ∧ AgLZ z K H vs rs
  | _, _ => False
section
variable {K : PySem.W.Frag} {H0 H H' H'' : Hp} {Γ Γ1 : List Sl} {σ σ' : L2.St} {z : Addr} {p : Nat} {te ta tb : TE} {tr : TA} {r r1 r2 : Rk} {v : V}
theorem SZ.tk (a : SZ z H H') : TK H H' := fun b xs h => a.keep b _ (by
  rintro rfl
  obtain ⟨vs, e⟩ := a.src
  rw [e] at h
  cases h) h
theorem SZ.nl (a : SZ z H H') : NL H H' := fun b u n h => a.keep b u (by
  rintro rfl
  obtain ⟨vs, e⟩ := a.src
  rw [e] at h
  cases h
  exact n vs rfl) h
theorem SZ.trans (a : SZ z H H') (b : SZ z H' H'') : SZ z H H'' := ⟨fun c u n h => b.keep c u n (a.keep c u n h), fun c h => a.free c (b.free c h), a.src⟩
theorem PS.at (s : PS K H0 Γ p σ H z) : PotAt H z ∧ H0 z = none := by
  obtain ⟨i, j, k, rp⟩ := s.ex
  obtain ⟨a, vs, h1, h2, h3, h4⟩ := rp.ownAt (i := p) (xs := potL i j k) (by rw [List.getElem?_set_self s.pl])
  rw [s.hz] at h1
  cases h1
  have e := h3.ints (ns := [i, j, k])
  subst e
  exact ⟨⟨i, j, k, h2⟩, h4⟩
theorem SZ.refl (h : PotAt H z) : SZ z H H := ⟨fun _ _ _ h => h, fun _ h => h, by
  obtain ⟨i, j, k, h⟩ := h
  exact ⟨_, h⟩⟩
theorem SZ.of (h : PotAt H z) (e : Same H H') : SZ z H H' := ⟨fun b u _ h => e b u h, fun b h => e.free h, by
  obtain ⟨i, j, k, h⟩ := h
  exact ⟨_, h⟩⟩
theorem PS.mono (s : PS K H0 Γ p σ H z) (e : Same H H') : PS K H0 Γ p σ H' z := by
  obtain ⟨i, j, k, rp⟩ := s.ex
  exact ⟨⟨i, j, k, rp.mono e⟩, s.hz, s.pl⟩
/-- the pot is changed -/
theorem PS.change (s : PS K H0 Γ p σ H z) (i j k : Int) : PS K H0 Γ p σ (upd H z (.lst [.int i, .int j, .int k])) z ∧ SZ z H (upd H z (.lst [.int i, .int j, .int k])) := by
  obtain ⟨i0, j0, k0, rp⟩ := s.ex
  obtain ⟨⟨i1, j1, k1, hz⟩, hn⟩ := s.at
  have := rp.change (i := p) (xs := potL i0 j0 k0) (ys := potL i j k) (a := z) (ws := [.int i, .int j, .int k]) (by rw [List.getElem?_set_self s.pl]) s.hz hz (.cons (.int i) (.cons (.int j) (.cons (.int k) .nil)))
  rw [List.set_set] at this
  refine ⟨⟨⟨i, j, k, this⟩, s.hz, s.pl⟩, fun b u nb h => by rw [upd_ne nb]; exact h, fun b h => ?_, ⟨_, hz⟩⟩
  by_cases e : b = z
  · subst e
    rw [upd_same] at h
    cases h
  · rw [upd_ne e] at h
    exact h
/-- over a change of the pot by someone else -/
theorem PS.over (s : PS K H0 Γ p σ H z) (e : SZ z H H') (hz : PotAt H' z) : PS K H0 Γ p σ H' z := by
  obtain ⟨i, j, k, hz⟩ := hz
  obtain ⟨c, e2⟩ := s.change i j k
  refine c.mono fun b u h => ?_
  by_cases eb : b = z
  · subst eb
    rw [upd_same] at h
    rw [hz]
    exact h
  · rw [upd_ne eb] at h
    exact e.keep b u eb h
theorem AgZ.mono (s : SZ z H H') (h : AgZ z K H r v) : AgZ z K H' r v := by
  refine ⟨?_, h.2⟩
  obtain ⟨h1, h2⟩ := h
  cases r with
  | d x => exact Dt.keep s.tk h1
  | l xs =>
    obtain ⟨a, vs, e, h3, h4⟩ := h1
    subst e
    exact ⟨a, vs, rfl, s.keep _ _ (fun e => h2 rfl (by rw [e])) h3, DtL.keep s.tk h4⟩
  | s xs =>
    obtain ⟨a, vs, e, h3, h4⟩ := h1
    subst e
    exact ⟨a, vs, rfl, s.keep _ _ (fun e => h2 rfl (by rw [e])) h3, DtL.keep s.tk h4⟩
  | t n => exact h1
  | g R => exact Fst.mono s.nl h1
theorem ResZ.ag (h : ResZ z K H H' r v) : AgZ z K H' r v := ⟨h.1.ag, h.2⟩
theorem ResZ.mono {G : Hp} (s : SZ z H' G) (h : ResZ z K H H' r v) : ResZ z K H G r v := by
  refine ⟨?_, h.2⟩
  obtain ⟨h1, h2⟩ := h
  cases r with
  | d x => exact Dt.keep s.tk h1
  | l xs =>
    obtain ⟨a, vs, e, h0, h3, h4⟩ := h1
    subst e
    exact ⟨a, vs, rfl, h0, s.keep _ _ (fun e => h2 rfl (by rw [e])) h3, DtL.keep s.tk h4⟩
  | s xs =>
    obtain ⟨a, vs, e, h3, h4⟩ := h1
    subst e
    exact ⟨a, vs, rfl, s.keep _ _ (fun e => h2 rfl (by rw [e])) h3, DtL.keep s.tk h4⟩
  | t n => exact h1
  | g R => exact Fst.mono s.nl h1
theorem ResZ.back {G : Hp} (s : SZ z G H) (h : ResZ z K H H' r v) : ResZ z K G H' r v := by
  refine ⟨?_, h.2⟩
  obtain ⟨h1, h2⟩ := h
  cases r with
  | l xs =>
    obtain ⟨a, vs, e, h0, h3, h4⟩ := h1
    exact ⟨a, vs, e, s.free _ h0, h3, h4⟩
  | d x => exact h1
  | s xs => exact h1
  | t n => exact h1
  | g R => exact h1
theorem AgLZ.mono (s : SZ z H H') : ∀ {vs : List V} {rs : List Rk}, AgLZ z K H vs rs → AgLZ z K H' vs rs
  | [], [], _ => trivial
  | _ :: _, _ :: _, h => ⟨h.1.mono s, AgLZ.mono s h.2⟩
  | [], _ :: _, h => h.elim
  | _ :: _, [], h => h.elim
theorem AgLZ.agl : ∀ {vs : List V} {rs : List Rk}, AgLZ z K H vs rs → AgL K H vs rs
  | [], [], _ => trivial
  | _ :: _, _ :: _, h => ⟨h.1.1, AgLZ.agl h.2⟩
  | [], _ :: _, h => h.elim
  | _ :: _, [], h => h.elim
/-! ### expressions that draw -/
def SemP (B : Hp) (p : Nat) (K : PySem.W.Frag) (Γ : List Sl) (te : TE) (R : Rk → Prop) : Prop :=
  ∀ (H0 : Hp) (σ : L2.St) (H : Hp) (z : Addr) (Q : VK), Same B H0 → PS K H0 Γ p σ H z →
    (∀ v H' r, R r → SZ z H H' → PS K H0 Γ p σ H' z → ResZ z K H H' r v → Q v H') → te σ H Q
def SemPA (B : Hp) (p : Nat) (K : PySem.W.Frag) (Γ : List Sl) (tr : TA) (R : List Rk → Prop) : Prop :=
  ∀ (H0 : Hp) (σ : L2.St) (H : Hp) (z : Addr) (Q : List V → Hp → Prop), Same B H0 → PS K H0 Γ p σ H z →
    (∀ vs H' rs, R rs → SZ z H H' → PS K H0 Γ p σ H' z → AgLZ z K H' vs rs → Q vs H') → tr σ H Q
def SemPT (B : Hp) (p : Nat) (K : PySem.W.Frag) (Γ : List Sl) (t : TT) (R : Bool → Prop) : Prop :=
  ∀ (H0 : Hp) (σ : L2.St) (H : Hp) (z : Addr) (Q : Bool → Hp → Prop), Same B H0 → PS K H0 Γ p σ H z →
    (∀ b H', R b → SZ z H H' → PS K H0 Γ p σ H' z → Q b H') → t σ H Q
variable {B : Hp} {P P1 P3 : Rk → Prop} {PA1 PA3 : List Rk → Prop} {t u : TT}
theorem SemP.mono (h : SemP B p K Γ te P) (hR : ∀ r, P r → P1 r) : SemP B p K Γ te P1 := fun H0 σ H z Q b s q =>
  h H0 σ H z Q b s fun v H' r hr => q v H' r (hR r hr)
/-- nothing is drawn -/
theorem semp_pure (h : ∀ i j k, Sem K (Γ.set p (.l (potL i j k))) te r) (hr : ∀ xs, r ≠ .s xs) : SemP B p K Γ te (fun x => x = r) := fun H0 σ H z Q _ s q => by
  obtain ⟨i, j, k, rp⟩ := s.ex
  have pz := s.at.1
  refine h i j k H0 σ H Q rp fun v H' e a => q v H' r rfl (SZ.of pz e) (s.mono e) ⟨a, fun hv => ?_⟩
  cases r with
  | l xs =>
    obtain ⟨b, vs, e1, h0, _⟩ := a
    rintro rfl
    cases e1
    obtain ⟨_, _, _, hz⟩ := pz
    rw [hz] at h0
    cases h0
  | s xs => exact absurd rfl (hr xs)
  | d x => cases hv
  | t n => cases hv
  | g R => cases hv
theorem semp_d {x : PyData} (h : ∀ i j k, Sem K (Γ.set p (.l (potL i j k))) te (.d x)) : SemP B p K Γ te (fun r => r = .d x) := semp_pure h fun xs z => by cases z
theorem semp_l {xs : List PyData} (h : ∀ i j k, Sem K (Γ.set p (.l (potL i j k))) te (.l xs)) : SemP B p K Γ te (fun r => r = .l xs) := semp_pure h fun xs z => by cases z
theorem sempt_pure {b : Bool} (h : ∀ i j k, SemT K (Γ.set p (.l (potL i j k))) t b) : SemPT B p K Γ t (fun x => x = b) := fun H0 σ H z Q _ s q => by
  obtain ⟨i, j, k, rp⟩ := s.ex
  have pz := s.at.1
  exact h i j k H0 σ H Q rp fun H' e => q b H' rfl (SZ.of pz e) (s.mono e)
/-- a list in a slot -/
theorem semp_var {q : Nat} {xs : List PyData} (hq : q ≠ p) (h : Γ[q]? = some (.l xs) ∨ Γ[q]? = some (.f xs)) : SemP B p K Γ (tVar q) (fun r => r = .s xs) := fun H0 σ H z Q _ s q' => by
  obtain ⟨i, j, k, rp⟩ := s.ex
  have hp : (Γ.set p (.l (potL i j k)))[p]? = some (.l (potL i j k)) := by rw [List.getElem?_set_self s.pl]
  have apart : ∀ (u : Sl) (v : V), (Γ.set p (.l (potL i j k)))[q]? = some u → u.isL = true → σ[q]? = some (some v) → v ≠ .ref z := fun u v hu hl hv e => by
    refine rp.dis p q _ u (Ne.symm hq) hp hu rfl hl ?_
    rw [s.hz, hv, e]
  rcases h with h | h
  · have hg : (Γ.set p (.l (potL i j k)))[q]? = some (.l xs) := by rw [List.getElem?_set_ne (Ne.symm hq)]; exact h
    obtain ⟨v, h1, a, vs, h2, h3, h4, _⟩ := rp.at_ q _ hg (by intro z; cases z)
    exact ⟨v, h1, q' v H _ rfl (SZ.refl s.at.1) s ⟨⟨a, vs, h2, h3, h4⟩, fun _ => apart _ v hg rfl h1⟩⟩
  · have hg : (Γ.set p (.l (potL i j k)))[q]? = some (.f xs) := by rw [List.getElem?_set_ne (Ne.symm hq)]; exact h
    obtain ⟨v, h1, a, vs, h2, h3, h4⟩ := rp.at_ q _ hg (by intro z; cases z)
    exact ⟨v, h1, q' v H _ rfl (SZ.refl s.at.1) s ⟨⟨a, vs, h2, h3, h4⟩, fun _ => apart _ v hg rfl h1⟩⟩
theorem PotAt.mono (h : PotAt H z) (e : Same H H') : PotAt H' z := by
  obtain ⟨i, j, k, h⟩ := h
  exact ⟨i, j, k, e _ _ h⟩
/-- a fresh result is not the pot -/
theorem resz_of (pz : PotAt H z) (hr : ∀ xs, r ≠ .s xs) (a : Res K H H' r v) : ResZ z K H H' r v := ⟨a, fun hv => by
  cases r with
  | l xs =>
    obtain ⟨b, vs, e1, h0, _⟩ := a
    rintro rfl
    cases e1
    obtain ⟨_, _, _, hz⟩ := pz
    rw [hz] at h0
    cases h0
  | s xs => exact absurd rfl (hr xs)
  | d x => cases hv
  | t n => cases hv
  | g R => cases hv⟩
theorem semp_op {o : R2} (ha : SemP B p K Γ ta P1) (hb : SemP B p K Γ tb P3) (h : ∀ r1 r2, P1 r1 → P3 r2 → ∃ r, P r ∧ (∀ xs, r ≠ .s xs) ∧ RvD K o r1 r2 r) : SemP B p K Γ (tOp o ta tb) P := fun H0 σ H z Q b s q =>
  ha H0 σ H z _ b s fun v H1 r1 h1 e1 s1 a1 => hb H0 σ H1 z _ b s1 fun w H2 r2 h2 e2 s2 a2 => by
    obtain ⟨r, hr, ns, rv⟩ := h r1 r2 h1 h2
    refine rv H2 v w Q (a1.ag.mono e2).1 a2.ag.1 fun u H3 e3 a3 => ?_
    have e4 := SZ.of s2.at.1 e3
    exact q u H3 r hr ((e1.trans e2).trans e4) (s2.mono e3) ((resz_of s2.at.1 ns a3).back (e1.trans e2))
theorem sempa_nil : SemPA B p K Γ tNil (fun rs => rs = []) := fun _ _ H z _ _ s q => q [] H [] rfl (SZ.refl s.at.1) s trivial
theorem sempa_cons (ha : SemP B p K Γ ta P) (h : SemPA B p K Γ tr PA1) : SemPA B p K Γ (tCons ta tr) (fun rs => ∃ r rs', P r ∧ PA1 rs' ∧ rs = r :: rs') := fun H0 σ H z Q b s q =>
  ha H0 σ H z _ b s fun v H1 r hr e1 s1 a1 => h H0 σ H1 z _ b s1 fun vs H2 rs hrs e2 s2 a2 => q (v :: vs) H2 (r :: rs) ⟨r, rs, hr, hrs, rfl⟩ (e1.trans e2) s2 ⟨a1.ag.mono e2, a2⟩
theorem SemPA.mono (h : SemPA B p K Γ tr PA1) (hR : ∀ rs, PA1 rs → PA3 rs) : SemPA B p K Γ tr PA3 := fun H0 σ H z Q b s q => h H0 σ H z Q b s fun vs H' rs hr => q vs H' rs (hR rs hr)
theorem semp_tup (ha : SemPA B p K Γ tr PA1) (h : ∀ rs, PA1 rs → ∃ ds, rs = ds.map Rk.d ∧ ds.length ≤ 1000 ∧ P (.d (.tuple ds))) : SemP B p K Γ (tTup tr) P := fun H0 σ H z Q b s q =>
  ha H0 σ H z _ b s fun vs H1 rs hrs e1 s1 a1 => by
    obtain ⟨ds, rfl, hl, hp⟩ := h rs hrs
    have a2 := AgL.data a1.agl
    refine ⟨Nat.le_of_lt (small1000 (by rw [a2.length]; exact hl)), fun c hc => ?_⟩
    have e2 := SZ.of s1.at.1 (same_new (o := .tup vs) hc)
    exact q _ _ _ hp (e1.trans e2) (s1.mono (same_new hc)) ⟨.tup (.inl upd_same) (DtL.keep (TK.of (same_new hc)) a2), fun z => by cases z⟩
theorem semp_lst (ha : SemPA B p K Γ tr PA1) (h : ∀ rs, PA1 rs → ∃ ds, rs = ds.map Rk.d ∧ ds.length ≤ 1000 ∧ P (.l ds)) : SemP B p K Γ (tLst tr) P := fun H0 σ H z Q b s q =>
  ha H0 σ H z _ b s fun vs H1 rs hrs e1 s1 a1 => by
    obtain ⟨ds, rfl, hl, hp⟩ := h rs hrs
    have a2 := AgL.data a1.agl
    refine ⟨Nat.le_of_lt (small1000 (by rw [a2.length]; exact hl)), fun c hc => ?_⟩
    have e2 := SZ.of s1.at.1 (same_new (o := .lst vs) hc)
    exact q _ _ _ hp (e1.trans e2) (s1.mono (same_new hc)) ((resz_of (r := .l ds) (K := K) (H' := upd H1 c (.lst vs)) s1.at.1 (fun xs z => by cases z) ⟨c, vs, rfl, hc, upd_same, DtL.keep (TK.of (same_new hc)) a2⟩).back e1)
theorem semp_cb {o : List V → Hp → VK → Prop} (ha : SemPA B p K Γ tr PA1) (h : ∀ rs, PA1 rs → ∃ r, P r ∧ (∀ xs, r ≠ .s xs) ∧ CvD K o rs r) : SemP B p K Γ (tCB o tr) P := fun H0 σ H z Q b s q =>
  ha H0 σ H z _ b s fun vs H1 rs hrs e1 s1 a1 => by
    obtain ⟨r, hr, ns, cv⟩ := h rs hrs
    exact cv H1 vs Q a1.agl fun u H2 e2 a2 => q u H2 r hr (e1.trans (SZ.of s1.at.1 e2)) (s1.mono e2) ((resz_of s1.at.1 ns a2).back e1)
theorem semp_if {C : Bool → Prop} (h : SemPT B p K Γ t C) (h1 : C true → SemP B p K Γ ta P) (h2 : C false → SemP B p K Γ tb P) : SemP B p K Γ (tIf t ta tb) P := fun H0 σ H z Q b s q =>
  h H0 σ H z _ b s fun x H1 hx e1 s1 => by
    cases x with
    | true => exact iteT (h1 hx H0 σ H1 z Q b s1 fun v H2 r hr e2 s2 a2 => q v H2 r hr (e1.trans e2) s2 (a2.back e1))
    | false => exact iteF (h2 hx H0 σ H1 z Q b s1 fun v H2 r hr e2 s2 a2 => q v H2 r hr (e1.trans e2) s2 (a2.back e1))
theorem sempt_and {C D : Bool → Prop} (h : SemPT B p K Γ t C) (h2 : C true → SemPT B p K Γ u D) : SemPT B p K Γ (tAnd t u) (fun b => (C false ∧ b = false) ∨ (C true ∧ D b)) := fun H0 σ H z Q b s q =>
  h H0 σ H z _ b s fun x H1 hx e1 s1 => by
    cases x with
    | true => exact iteT (h2 hx H0 σ H1 z Q b s1 fun y H2 hy e2 s2 => q y H2 (.inr ⟨hx, hy⟩) (e1.trans e2) s2)
    | false => exact iteF (q false H1 (.inl ⟨hx, rfl⟩) e1 s1)
theorem sempt_B {C : Bool → Prop} (h : SemP B p K Γ te P) (hc : ∀ r, P r → ∃ b, r = .d (.bool b) ∧ C b) : SemPT B p K Γ (tB te) C := fun H0 σ H z Q b s q =>
  h H0 σ H z _ b s fun v H1 r hr e1 s1 a1 => by
    obtain ⟨x, rfl, hx⟩ := hc r hr
    have ev := Dt.isBool a1.1
    exact ⟨x, ev, q x H1 hx e1 s1⟩
end
end RP
end
section
set_option autoImplicit false
set_option maxHeartbeats 2000000
namespace RP
open PySem PySem.Spec PyProof.Rows L2
def spP (K : PySem.W.Frag) (pre : List Rk → (Rk → Prop) → Prop) : Sp := fun vs H Q _ => ∃ z ws rs post, vs = .ref z :: ws ∧ pre rs post ∧ PotAt H z ∧ AgLZ z K H ws rs ∧
  ∀ v H' r, post r → SZ z H H' → PotAt H' z → ResZ z K H H' r v → Q v H'
section
variable {K : PySem.W.Frag} {H0 H H' H'' : Hp} {Γ Γ1 : List Sl} {σ σ' : L2.St} {z : Addr} {p : Nat} {te ta tb : TE} {tr : TA} {r r1 r2 : Rk} {v : V}
variable {B : Hp} {P P1 P3 : Rk → Prop} {PA1 PA3 : List Rk → Prop} {t u : TT} {pre : List Rk → (Rk → Prop) → Prop} {E : XK}
theorem semp_call (ha : SemPA B p K Γ tr PA1) (h : ∀ rs, PA1 rs → ∃ post, pre rs post ∧ ∀ r, post r → P r) : SemP B p K Γ (tCall (spP K pre) [] E (tCons (tVar p) tr)) P := fun H0 σ H z Q b s q =>
  ⟨.ref z, s.hz, ha H0 σ H z _ b s fun vs H1 rs hrs e1 s1 a1 => by
    obtain ⟨post, hp, hq⟩ := h rs hrs
    refine ⟨z, vs, rs, post, by rw [List.append_nil], hp, s1.at.1, a1, fun v H2 r hr e2 pz a2 => ?_⟩
    exact q v H2 r (hq r hr) (e1.trans e2) (s1.over e2 pz) (a2.back e1)⟩
/-! ### blocks -/
def EndP (B : Hp) (K : PySem.W.Frag) (H0 : Hp) (z : Addr) (p : Nat) (post : Rk → Prop) (nx : List Sl → Prop) (D : Ends) : Prop :=
  (∀ v H r, post r → Same H0 H → PotAt H z → ResZ z K H0 H r v → D.rt v H) ∧ (∀ σ H Γ, nx Γ → PS K H0 Γ p σ H z → D.nx σ H)
def BP (B : Hp) (p : Nat) (K : PySem.W.Frag) (Γ : List Sl) (t : TS) (post : Rk → Prop) (nx : List Sl → Prop) : Prop :=
  ∀ (H0 : Hp) (z : Addr) (D : Ends), Same B H0 → EndP B K H0 z p post nx D → ∀ σ H, PS K H0 Γ p σ H z → t D σ H
variable {post : Rk → Prop} {nx nx1 : List Sl → Prop} {tS uS : TS}
theorem PS.base (s : PS K H0 Γ p σ H z) : Same H0 H := by
  obtain ⟨i, j, k, rp⟩ := s.ex
  exact rp.same
theorem bp_next (h : nx Γ) : BP B p K Γ tNext post nx := fun _ _ _ _ e σ H s => e.2 σ H Γ h s
theorem bp_seq (h : BP B p K Γ tS post nx1) (h2 : ∀ Γ1, nx1 Γ1 → BP B p K Γ1 uS post nx) : BP B p K Γ (tSeq tS uS) post nx := fun H0 z D b e σ H s =>
  h H0 z { D with nx := uS D } b ⟨e.1, fun σ1 H1 Γ1 hn s1 => h2 Γ1 hn H0 z D b e σ1 H1 s1⟩ σ H s
theorem BP.mono (h : BP B p K Γ tS post nx1) (hn : ∀ Γ1, nx1 Γ1 → nx Γ1) : BP B p K Γ tS post nx := fun H0 z D b e σ H s =>
  h H0 z _ b ⟨e.1, fun σ1 H1 Γ1 h1 s1 => e.2 σ1 H1 Γ1 (hn _ h1) s1⟩ σ H s
theorem bp_if {C : Bool → Prop} (h : SemPT B p K Γ t C) (h1 : C true → BP B p K Γ tS post nx) (h2 : C false → BP B p K Γ uS post nx) : BP B p K Γ (tIfS t tS uS) post nx := fun H0 z D b e σ H s =>
  h H0 σ H z _ b s fun x H1 hx e1 s1 => by
    cases x with
    | true => exact iteT (h1 hx H0 z D b e σ H1 s1)
    | false => exact iteF (h2 hx H0 z D b e σ H1 s1)
theorem ResZ.base (h : ResZ z K H H' r v) (s : PS K H0 Γ p σ H z) : ResZ z K H0 H' r v := ⟨h.1.back s.base, h.2⟩
theorem bp_ret (h : SemP B p K Γ te P) (hp : ∀ r, P r → post r) : BP B p K Γ (tRet te) post nx := fun H0 z D b e σ H s =>
  h H0 σ H z _ b s fun v H1 r hr e1 s1 a1 => e.1 v H1 r (hp r hr) s1.base s1.at.1 (a1.base s)
theorem bp_retL {i : Nat} {xs : List PyData} (hi : Γ[i]? = some (.l xs)) (hip : i ≠ p) (hp : post (.l xs)) : BP B p K Γ (tRet (tVar i)) post nx := fun H0 z D b e σ H s => by
  obtain ⟨a, b2, c, rp⟩ := s.ex
  have hg : (Γ.set p (.l (potL a b2 c)))[i]? = some (.l xs) := by rw [List.getElem?_set_ne (Ne.symm hip)]; exact hi
  obtain ⟨v, h1, ad, vs, h2, h3, h4, h5⟩ := rp.at_ i _ hg (by intro z; cases z)
  refine ⟨v, h1, e.1 v H (.l xs) hp rp.same s.at.1 ⟨⟨ad, vs, h2, h5, h3, h4⟩, fun _ ez => ?_⟩⟩
  refine rp.dis i p _ _ hip hg (by rw [List.getElem?_set_self s.pl]) rfl rfl ?_
  rw [s.hz, h1, ez]
theorem bp_expr (h : SemP B p K Γ te P) (hn : nx Γ) : BP B p K Γ (tDrop te) post nx := fun H0 z D b e σ H s =>
  h H0 σ H z _ b s fun v H1 r hr e1 s1 a1 => e.2 σ H1 Γ hn s1
/-- a value goes to a slot -/
theorem PS.store (s : PS K H0 Γ p σ H z) {v : V} (a : ResZ z K H0 H r v) {i : Nat} (hip : i ≠ p) (hf : ∀ xs, r = .l xs → ∀ (j : Nat) (u : Sl), j ≠ i → j ≠ p → Γ[j]? = some u → u.isL = true → σ[j]? ≠ some (some v)) : PS K H0 (Γ.set i r.sl) p (σ.set i (some v)) H z := by
  obtain ⟨i0, j0, k0, rp⟩ := s.ex
  refine ⟨⟨i0, j0, k0, ?_⟩, by rw [List.getElem?_set_ne hip]; exact s.hz, by rw [List.length_set]; exact s.pl⟩
  rw [List.set_comm _ _ hip]
  cases r with
  | d x => exact rp.set (s := .d x) a.1 (fun z => by cases z) (fun z => by cases z)
  | s xs => exact rp.set (s := .un) trivial (fun z => by cases z) (fun z => by cases z)
  | t n => exact rp.set (s := .un) trivial (fun z => by cases z) (fun z => by cases z)
  | g R => exact rp.set (s := .g R) a.1 (fun z => by cases z) (fun z => by cases z)
  | l xs =>
    obtain ⟨⟨b, vs, e1, h0, h3, h4⟩, h2⟩ := a
    have key : ∀ (j : Nat) (u : Sl), j ≠ i → (Γ.set p (.l (potL i0 j0 k0)))[j]? = some u → u.isL = true → σ[j]? ≠ some (some v) := fun j u hj hu hl ez => by
      by_cases ejp : j = p
      · subst ejp
        rw [s.hz] at ez
        cases ez
        exact h2 rfl rfl
      · rw [List.getElem?_set_ne (Ne.symm ejp)] at hu
        exact hf xs rfl j u hj ejp hu hl ez
    exact rp.set (s := .l xs) ⟨b, vs, e1, h3, h4, h0⟩ (fun _ j u hj hu hl => key j u hj hu hl) (fun _ j u hj hu ho => key j u hj hu (own_isL ho))
theorem PS.put (s : PS K H0 Γ p σ H z) (s1 : PS K H0 Γ p σ H' z) {v : V} (a1 : ResZ z K H H' r v) {i : Nat} (hip : i ≠ p) : PS K H0 (Γ.set i r.sl) p (σ.set i (some v)) H' z :=
  s1.store (a1.base s) hip fun xs er j u hj hjp hu hl ez => by
    subst er
    obtain ⟨⟨c, vs, ev, h0, _⟩, _⟩ := a1
    obtain ⟨i0, j0, k0, rp⟩ := s.ex
    obtain ⟨c2, ws, h5, h6⟩ := rp.lists (j := j) (s := u) (by rw [List.getElem?_set_ne (Ne.symm hjp)]; exact hu) hl
    rw [ez, ev] at h5
    cases h5
    rw [h0] at h6
    cases h6
theorem bp_set {i : Nat} (h : SemP B p K Γ te P) (hip : i ≠ p) (hn : ∀ r, P r → nx (Γ.set i r.sl)) : BP B p K Γ (tAsg te (gName i)) post nx := fun H0 z D b e σ H s =>
  h H0 σ H z _ b s fun v H1 r hr e1 s1 a1 => e.2 _ H1 _ (hn r hr) (s.put s1 a1 hip)
/-- a, b = a list, data -/
theorem bp_par {i j : Nat} {xs : List PyData} {y : PyData} (h : SemP B p K Γ ta (fun r => r = .l xs)) (h2 : SemP B p K Γ tb (fun r => r = .d y)) (hip : i ≠ p) (hjp : j ≠ p) (hn : nx ((Γ.set i (.l xs)).set j (.d y))) :
    BP B p K Γ (tPar i j (tCons ta (tCons tb tNil))) post nx := fun H0 z D b e σ H s =>
  h H0 σ H z _ b s fun v H1 r hr e1 s1 a1 => h2 H0 σ H1 z _ b s1 fun w H2 r2 hr2 e2 s2 a2 => ⟨v, w, rfl, by
    subst hr hr2
    have t1 := s.put s2 (a1.mono e2) hip
    exact e.2 _ H2 _ hn (t1.store (r := .d y) ⟨a2.1, fun z => by cases z⟩ hjp (fun xs z => by cases z))⟩
theorem bp_par3 {i j l : Nat} {tc : TE} {xs : List PyData} {y y2 : PyData} (h : SemP B p K Γ ta (fun r => r = .l xs)) (h2 : SemP B p K Γ tb (fun r => r = .d y)) (h3 : SemP B p K Γ tc (fun r => r = .d y2)) (hip : i ≠ p) (hjp : j ≠ p) (hlp : l ≠ p) (hn : nx (((Γ.set i (.l xs)).set j (.d y)).set l (.d y2))) :
    BP B p K Γ (tPar3 i j l (tCons ta (tCons tb (tCons tc tNil)))) post nx := fun H0 z D b e σ H s =>
  h H0 σ H z _ b s fun v H1 r hr e1 s1 a1 => h2 H0 σ H1 z _ b s1 fun w H2 r2 hr2 e2 s2 a2 => h3 H0 σ H2 z _ b s2 fun u H3 r3 hr3 e3 s3 a3 => ⟨v, w, u, rfl, by
    subst hr hr2 hr3
    have t1 := s.put s3 ((a1.mono e2).mono e3) hip
    have t2 := t1.store (r := .d y) (v := w) ⟨(a2.mono e3).1, fun z => by cases z⟩ hjp (fun xs z => by cases z)
    exact e.2 _ H3 _ hn (t2.store (r := .d y2) ⟨a3.1, fun z => by cases z⟩ hlp (fun xs z => by cases z))⟩
/-- xs.append(e), e may draw -/
theorem bp_append {i : Nat} {xs : List PyData} (hi : Γ[i]? = some (.l xs)) (hip : i ≠ p) (h : SemP B p K Γ te P) (hl : xs.length ≤ 100000) (hn : ∀ r, P r → ∃ x, r = .d x ∧ nx (Γ.set i (.l (xs ++ [x])))) : BP B p K Γ (tDrop (tBM K "list" rAppend (tVar i) (tCons te tNil))) post nx := fun H0 z D b e σ H s => by
  obtain ⟨i0, j0, k0, rp⟩ := s.ex
  have hg : (Γ.set p (.l (potL i0 j0 k0)))[i]? = some (.l xs) := by rw [List.getElem?_set_ne (Ne.symm hip)]; exact hi
  obtain ⟨a, vs, h1, h2, h3, h4⟩ := rp.ownAt hg
  have naz : a ≠ z := fun ez => by
    refine rp.dis i p _ _ hip hg (by rw [List.getElem?_set_self s.pl]) rfl rfl ?_
    rw [s.hz, h1, ez]
  refine ⟨_, h1, .inl ⟨rfl, vs, SqL.of h2⟩, h H0 σ H z _ b s fun v H1 r hr e1 s1 a1 => ?_⟩
  obtain ⟨x, rfl, hx⟩ := hn r hr
  refine ⟨a, vs, v, rfl, rfl, e1.keep _ _ naz h2, Nat.lt_of_le_of_lt (by rw [h3.length]; exact hl) (by decide), ?_⟩
  obtain ⟨i1, j1, k1, rp1⟩ := s1.ex
  have hg1 : (Γ.set p (.l (potL i1 j1 k1)))[i]? = some (.l xs) := by rw [List.getElem?_set_ne (Ne.symm hip)]; exact hi
  have := rp1.change hg1 h1 (e1.keep _ _ naz h2) ((DtL.keep e1.tk h3).append (.cons a1.1 .nil))
  rw [List.set_comm _ _ (Ne.symm hip)] at this
  exact e.2 σ _ _ hx ⟨⟨i1, j1, k1, this⟩, s1.hz, by rw [List.length_set]; exact s1.pl⟩
/-- xs[k] = e in an own list, no draw -/
theorem bp_setItem {i k : Nat} {ti : TE} {x : PyData} {xs : List PyData} (hi : Γ[i]? = some (.l xs)) (hip : i ≠ p) (hk : SemP B p K Γ ti (fun r => r = .d (.int (k : Int)))) (h : SemP B p K Γ te (fun r => r = .d x)) (hl : k < xs.length) (hn : nx (Γ.set i (.l (xs.set k x)))) : BP B p K Γ (tAsg te (gSub (tVar i) ti rSetL)) post nx := fun H0 z D b e σ H s =>
  h H0 σ H z _ b s fun v H1 r hr e1 s1 a1 => by
    subst hr
    obtain ⟨i0, j0, k0, rp⟩ := s1.ex
    have hg : (Γ.set p (.l (potL i0 j0 k0)))[i]? = some (.l xs) := by rw [List.getElem?_set_ne (Ne.symm hip)]; exact hi
    obtain ⟨a, vs, h1, h2, h3, h4⟩ := rp.ownAt hg
    have naz : a ≠ z := fun ez => by
      refine rp.dis i p _ _ hip hg (by rw [List.getElem?_set_self s.pl]) rfl rfl ?_
      rw [s.hz, h1, ez]
    refine ⟨_, h1, hk H0 σ H1 z _ b s1 fun w H2 r2 hr2 e2 s2 a2 => ?_⟩
    subst hr2
    refine ⟨a, vs, (k : Int), k, rfl, Dt.isInt a2.1, e2.keep _ _ naz h2, ?_, ?_⟩
    · unfold ixN
      rw [if_pos (by omega), if_pos (by rw [h3.length]; omega), Int.toNat_natCast]
    · obtain ⟨i1, j1, k1, rp1⟩ := s2.ex
      have hg1 : (Γ.set p (.l (potL i1 j1 k1)))[i]? = some (.l xs) := by rw [List.getElem?_set_ne (Ne.symm hip)]; exact hi
      have := rp1.change hg1 h1 (e2.keep _ _ naz h2) (DtL.set (Dt.keep e2.tk a1.1) k (DtL.keep e2.tk h3))
      rw [List.set_comm _ _ (Ne.symm hip)] at this
      exact e.2 σ _ _ hn ⟨⟨i1, j1, k1, this⟩, s2.hz, by rw [List.length_set]; exact s2.pl⟩
/-- for i in range(n), n may be drawn -/
theorem bp_forRange {i : Nat} (N : Nat → Prop) (Inv : Nat → Nat → List Sl → Prop) (h : SemP B p K Γ te P) (hP : ∀ r, P r → ∃ n : Nat, r = .d (.int (n : Int)) ∧ n ≤ 100000 ∧ N n) (hip : i ≠ p) (h0 : ∀ n, N n → Inv n 0 Γ)
    (hs : ∀ n k Γ1, N n → k < n → Inv n k Γ1 → BP B p K (Γ1.set i (.d (.int (k : Int)))) tS post (Inv n (k + 1))) (hn : ∀ n Γ1, N n → Inv n n Γ1 → nx Γ1) : BP B p K Γ (tFor (iRng1 (tCons te tNil)) (gName i) tS) post nx := fun H0 z D b e σ H s =>
  h H0 σ H z _ b s fun v H1 r hr e1 s1 a1 => by
    obtain ⟨n, rfl, hle, hN⟩ := hP r hr
    refine ⟨(n : Int), by rw [Dt.isInt a1.1], by omega, by omega, ?_⟩
    rw [Int.toNat_natCast]
    refine for_it (walk_range (lo := 0) (n := n)) (fun m σ' G => ∃ Γ1, Inv n m Γ1 ∧ PS K H0 Γ1 p σ' G z) ⟨Γ, h0 n hN, s1⟩ (fun _ _ _ _ _ => trivial) (fun m x σ' G G' hm s' y => ?_) (fun σ' G s' => ?_)
    · obtain ⟨rfl, rfl⟩ := y
      obtain ⟨Γ1, hI, s2⟩ := s'
      show tS _ (σ'.set i (some (V.int ((0 : Int) + (m : Nat))))) G'
      rw [show (0 : Int) + (m : Nat) = (m : Nat) by omega]
      refine hs n m Γ1 hN hm hI H0 z { D with nx := fun σ' G => ∃ Γ1, Inv n (m + 1) Γ1 ∧ PS K H0 Γ1 p σ' G z, ct := fun σ' G => ∃ Γ1, Inv n (m + 1) Γ1 ∧ PS K H0 Γ1 p σ' G z, bk := D.nx } b ⟨e.1, fun σ3 G3 Γ3 h3 s3 => ⟨Γ3, h3, s3⟩⟩ _ _ ?_
      exact s2.store (r := .d (.int (m : Int))) ⟨Dt.int _, fun z => by cases z⟩ hip (fun xs z => by cases z)
    · obtain ⟨Γ1, hI, s2⟩ := s'
      exact e.2 σ' G Γ1 (hn n Γ1 hN hI) s2
/-- [e for i in range(n)], n and e may be drawn -/
theorem semp_lcRange {i : Nat} {vs : List Nat} {Pe : PyData → Prop} (N : Nat → Prop) (h : SemP B p K Γ ta P1) (hP : ∀ r, P1 r → ∃ n : Nat, r = .d (.int (n : Int)) ∧ n ≤ 100000 ∧ N n) (hpv : p ∉ vs) (hiv : i ∈ vs)
    (hs : ∀ m : Nat, SemP B p K ((wipeS Γ vs).set i (.d (.int (m : Int)))) te (fun r => ∃ x, r = .d x ∧ Pe x)) (hq : ∀ ds, N ds.length → (∀ x ∈ ds, Pe x) → P (.l ds)) :
    SemP B p K Γ (tLc (iRng1 (tCons ta tNil)) (gName i) tYes te vs) P := fun H0 σ H z Q b s q =>
  h H0 σ H z _ b s fun v H1 r hr e1 s1 a1 => by
    obtain ⟨n, rfl, hle, hN⟩ := hP r hr
    refine ⟨(n : Int), by rw [Dt.isInt a1.1], by omega, by omega, ?_⟩
    rw [Int.toNat_natCast]
    intro D hD
    have hDz : D ≠ z := fun ez => by
      obtain ⟨⟨_, _, _, hz⟩, _⟩ := s1.at
      rw [ez, hz] at hD
      cases hD
    have hip : i ≠ p := fun ei => hpv (ei ▸ hiv)
    have up : ∀ {G : Hp} {o : HO}, SZ z H1 G → SZ z H1 (upd G D o) := fun sz => ⟨fun c u n hc => by
        rw [upd_ne (by rintro rfl; rw [hD] at hc; cases hc)]
        exact sz.keep c u n hc, fun c hc => by
        by_cases ec : c = D
        · subst ec
          exact hD
        · rw [upd_ne ec] at hc
          exact sz.free c hc, sz.src⟩
    have upz : ∀ {G : Hp} {o : HO}, PotAt G z → PotAt (upd G D o) z := fun pz => by
      obtain ⟨a, b, c, hz⟩ := pz
      exact ⟨a, b, c, by rw [upd_ne (Ne.symm hDz)]; exact hz⟩
    refine lc_it (walk_range (lo := 0) (n := n)) (fun m G => SZ z H1 G ∧ PotAt G z ∧ ∃ acc ds, G D = some (.lst acc) ∧ DtL K G acc ds ∧ ds.length = m ∧ ∀ x ∈ ds, Pe x) ⟨up (SZ.refl s1.at.1), upz s1.at.1, [], [], upd_same, .nil, rfl, fun _ h => absurd h (by simp)⟩ (fun _ _ _ _ => trivial) (fun m x G G' hm s' y => ?_) (fun G s' => ?_)
    · obtain ⟨rfl, rfl⟩ := y
      obtain ⟨sz, pz, acc, ds, hacc, hdl, hlen, hall⟩ := s'
      have s2 := s1.over sz pz
      refine ⟨wipe_dif (js := [i]) ⟨List.length_set, fun j hj => List.getElem?_set_ne (fun e => hj (by simp [e]))⟩ (fun j hj => by simp at hj; subst hj; exact hiv), ?_⟩
      refine (show ∀ (σ : L2.St) (Q : Bool → Hp → Prop), Q true G' → tYes σ G' Q from fun _ _ q => q) _ _ ?_
      dsimp only
      refine iteT ?_
      have sw : PS K H0 (wipeS Γ vs) p (wipe σ vs) G' z := by
        obtain ⟨i0, j0, k0, rp⟩ := s2.ex
        refine ⟨⟨i0, j0, k0, ?_⟩, ?_, by rw [wipeS_len]; exact s2.pl⟩
        · have rw' := rp.wiped vs
          refine ⟨rw'.same, by rw [List.length_set]; have := rw'.len; rw [wipeS_len, List.length_set] at this; rw [wipeS_len]; exact this, fun j t hj n => ?_, fun j l t u ne hj hl ho hL => ?_⟩
          · refine rw'.at_ j t ?_ n
            rw [wipeS_at]
            rw [getElem?_set', wipeS_at] at hj
            by_cases ejp : p = j
            · subst ejp
              rw [if_pos rfl, if_pos (by rw [wipeS_len]; exact s2.pl)] at hj
              rw [if_neg (fun h => hpv h.1), List.getElem?_set_self s2.pl]
              exact hj
            · rw [if_neg ejp] at hj
              rw [List.length_set, List.getElem?_set_ne ejp]
              exact hj
          · have conv : ∀ (j : Nat) (t : Sl), ((wipeS Γ vs).set p (.l (potL i0 j0 k0)))[j]? = some t → (wipeS (Γ.set p (.l (potL i0 j0 k0))) vs)[j]? = some t := fun j t hj => by
              rw [wipeS_at]
              rw [getElem?_set', wipeS_at] at hj
              by_cases ejp : p = j
              · subst ejp
                rw [if_pos rfl, if_pos (by rw [wipeS_len]; exact s2.pl)] at hj
                rw [if_neg (fun h => hpv h.1), List.getElem?_set_self s2.pl]
                exact hj
              · rw [if_neg ejp] at hj
                rw [List.length_set, List.getElem?_set_ne ejp]
                exact hj
            exact rw'.dis j l t u ne (conv j t hj) (conv l u hl) ho hL
        · rw [wipe_at, if_neg (fun h => hpv h.1)]
          exact s2.hz
      have sw2 := sw.store (r := .d (.int (m : Int))) (v := .int (m : Int)) ⟨Dt.int _, fun z => by cases z⟩ hip (fun xs z => by cases z)
      show te ((wipe σ vs).set i (some (V.int ((0 : Int) + (m : Nat))))) G' _
      rw [show (0 : Int) + (m : Nat) = (m : Nat) by omega]
      refine hs m H0 _ G' z _ b sw2 fun u G4 r4 hr4 e4 s4 a4 => ?_
      obtain ⟨x, rfl, hx⟩ := hr4
      refine ⟨acc, e4.keep _ _ hDz hacc, Nat.lt_of_le_of_lt (Nat.le_trans (by rw [hdl.length, hlen]; omega) hle) (by decide), up (sz.trans e4), upz s4.at.1, acc ++ [u], ds ++ [x], upd_same, ?_, by rw [List.length_append, hlen]; rfl, fun y hy => ?_⟩
      · have kk : TK G4 (upd G4 D (.lst (acc ++ [u]))) := TK.upd (fun zs hz2 => by rw [e4.keep _ _ hDz hacc] at hz2; cases hz2)
        exact DtL.append (DtL.keep kk (DtL.keep e4.tk hdl)) (.cons (Dt.keep kk a4.1) .nil)
      · rw [List.mem_append, List.mem_singleton] at hy
        rcases hy with hy | rfl
        · exact hall y hy
        · exact hx
    · obtain ⟨sz, pz, acc, ds, hacc, hdl, hlen, hall⟩ := s'
      refine q _ G _ (hq ds (by rw [hlen]; exact hN) hall) (e1.trans sz) (s1.over sz pz) ⟨⟨D, acc, rfl, e1.free _ hD, hacc, hdl⟩, fun _ ez => hDz (by cases ez; rfl)⟩
end
end RP
end
section
set_option autoImplicit false
set_option maxHeartbeats 2000000
namespace RP
open PySem PySem.Spec PyProof.Rows L2
open Classical in
noncomputable def delH (z : Addr) (H : Hp) : Hp := fun b => if b = z then none else H b
def potG : Rk := .g fun _ _ => True
section
variable {K : PySem.W.Frag} {H0 H H' H'' : Hp} {z : Addr}
theorem delH_self : delH z H z = none := if_pos rfl
theorem delH_ne {b : Addr} (h : b ≠ z) : delH z H b = H b := if_neg h
theorem delH_same : Same (delH z H) H := fun b o e => by
  by_cases h : b = z
  · subst h
    rw [delH_self] at e
    cases e
  · rwa [delH_ne h] at e
theorem aglz_at : ∀ {vs : List V} {rs : List Rk} {i : Nat} {v : V}, AgLZ z K H vs rs → vs[i]? = some v → ∃ r, rs[i]? = some r ∧ AgZ z K H r v
  | [], [], _, _, _, e => by simp at e
  | v :: vs, q :: rs, 0, r, h, e => by
    simp at e
    subst e
    exact ⟨q, rfl, h.1⟩
  | v :: vs, q :: rs, i + 1, r, h, e => by
    obtain ⟨u, h1, h2⟩ := aglz_at (i := i) h.2 (by simpa using e)
    exact ⟨u, by simpa using h1, h2⟩
  | [], _ :: _, _, _, h, _ => h.elim
  | _ :: _, [], _, _, h, _ => h.elim
theorem slots_own {N : List Str} {rs : List Rk} {i : Nat} {s : Sl} (h : (slots N rs)[i]? = some s) : s.isOwn = false := by
  unfold slots at h
  by_cases hb : i < rs.length
  · rw [List.getElem?_append_left (by rw [List.length_map]; exact hb), List.getElem?_map] at h
    cases hr : rs[i]? with
    | none =>
      rw [hr] at h
      cases h
    | some r =>
      rw [hr] at h
      cases h
      exact Rk.par_own r
  · rw [List.getElem?_append_right (by rw [List.length_map]; omega), List.getElem?_replicate] at h
    split at h
    · cases h
      rfl
    · cases h
theorem ps_start {N : List Str} {ws : List V} {rs : List Rk} (h : AgLZ z K H ws rs) (hz : PotAt H z) (hN : 0 < N.length) : PS K (delH z H) (slots N (potG :: rs)) 0 (L2.start N (.ref z :: ws)) H z := by
  have ag : AgL K H (.ref z :: ws) (potG :: rs) := ⟨fun _ _ => trivial, AgLZ.agl h⟩
  have rp := rp_start (N := N) ag
  obtain ⟨i, j, k, hz⟩ := hz
  have hs0 : (L2.start N (.ref z :: ws))[0]? = some (some (.ref z)) := rfl
  have hl : 0 < (slots N (potG :: rs)).length := by
    unfold slots
    rw [List.length_append, List.length_map]
    simp only [List.length_cons]
    omega
  refine ⟨⟨i, j, k, ?_⟩, hs0, hl⟩
  refine ⟨delH_same, by rw [List.length_set]; exact rp.len, fun a s ha n => ?_, fun a b s u ne ha hb ho hL => ?_⟩
  · by_cases e0 : a = 0
    · subst e0
      rw [List.getElem?_set_self hl] at ha
      cases ha
      exact ⟨_, hs0, z, _, rfl, hz, DtL.of_ints [i, j, k], delH_self⟩
    · rw [List.getElem?_set_ne (Ne.symm e0)] at ha
      obtain ⟨v, h1, h2⟩ := rp.at_ a s ha n
      refine ⟨v, h1, ?_⟩
      cases s with
      | l xs => have := slots_own ha; cases this
      | un => trivial
      | d x => exact h2
      | f xs => exact h2
      | g R => exact h2
  · by_cases e0 : a = 0
    · subst e0
      rw [List.getElem?_set_ne ne] at hb
      rw [hs0]
      intro ez
      have hL0 : ∃ c, b = c + 1 := ⟨b - 1, by omega⟩
      obtain ⟨c, rfl⟩ := hL0
      have hb2 : (slots N (potG :: rs))[c + 1]? = (rs.map Rk.par ++ List.replicate (N.length - (rs.length + 1)) .un)[c]? := by
        unfold slots
        simp
      rw [hb2] at hb
      by_cases hc : c < rs.length
      · rw [List.getElem?_append_left (by rw [List.length_map]; exact hc), List.getElem?_map] at hb
        have hlen : ws.length = rs.length := (AgLZ.agl h).length
        have hw : (L2.start N (.ref z :: ws))[c + 1]? = (ws[c]?).map some := by
          unfold L2.start
          rw [List.getElem?_append_left (by rw [List.length_map, List.length_cons]; omega), List.getElem?_map]
          rfl
        rw [hw, List.getElem?_eq_getElem (by omega)] at ez
        obtain ⟨r, hr, ag⟩ := aglz_at (i := c) h (List.getElem?_eq_getElem (by omega))
        rw [hr] at hb
        cases hb
        refine ag.2 ?_ (by simpa using ez.symm)
        cases r <;> first | rfl | cases hL
      · rw [List.getElem?_append_right (by rw [List.length_map]; omega), List.getElem?_replicate] at hb
        split at hb
        · cases hb
          cases hL
        · cases hb
    · rw [List.getElem?_set_ne (Ne.symm e0)] at ha
      rw [slots_own ha] at ho
      cases ho
/-- what a frame leaves: all but the pot -/
theorem sz_back {G : Hp} (hz : PotAt H z) (s : Same (delH z H) G) (pz : PotAt G z) : SZ z H G := ⟨fun b u n h => s b u (by rw [delH_ne n]; exact h), fun b h => by
  by_cases e : b = z
  · subst e
    obtain ⟨i, j, k, pz⟩ := pz
    rw [pz] at h
    cases h
  · have := s.free h
    rwa [delH_ne e] at this, by
  obtain ⟨i, j, k, hz⟩ := hz
  exact ⟨_, hz⟩⟩
theorem resz_back {r : Rk} {v : V} {G : Hp} (h : ResZ z K (delH z H) G r v) : ResZ z K H G r v := by
  refine ⟨?_, h.2⟩
  obtain ⟨h1, h2⟩ := h
  cases r with
  | l xs =>
    obtain ⟨a, vs, e, h0, h3, h4⟩ := h1
    subst e
    refine ⟨a, vs, rfl, ?_, h3, h4⟩
    rwa [delH_ne (fun e => h2 rfl (by rw [e]))] at h0
  | d x => exact h1
  | s xs => exact h1
  | t n => exact h1
  | g R => exact h1
end
section
variable {P : Program} {w : World} {K : PySem.W.Frag} {mg : Str → Option Value} {base : Heap}
theorem df_pot {CX : CXT} {st : Stmt} {x : Str} {N ps : List Str} {k : Nat} {pre : List Rk → (Rk → Prop) → Prop} (hF : FnAt K mg x st)
    (hb : ∀ (kV doc pm : Value) (an : Option Addr) (cdv ct : Value) (us : List Value), us.length = ps.length → bindArgs (PySem.W.fnOf x x (defArgs st) (defBody st) (defScope st) .none kV doc pm an cdv ct) ⟨us, []⟩ = pure (ps.zip us))
    (S : FnScope N ps (defScope st)) (hN : 0 < N.length) (len : ∀ rs post, pre rs post → rs.length + 1 = ps.length)
    (body : ∀ rs post, pre rs post → ∀ (f : Addr) (cdv : Value) (A : Around) (outer : List Env) (s : Shared) (H : Hp) (E : XK), Room k (A.deeper (envOfC x (defScope st) s.heap.objs.size f cdv)) →
      ∃ t, PSs (cxOf CX P w K mg base N x (defScope st) f cdv A outer s H E).nox (defBody st) t ∧ ∀ B, BP B 0 K (slots N (potG :: rs)) t post (fun _ => False)) : Df P w K mg base CX (k + 1) x ps (spP K pre) := by
  obtain ⟨f, fd, F, hm⟩ := hF
  refine ⟨f, fd, ?_, hm, F.kp, F.bindsN hb⟩
  refine F.ok S (fun vs H Q E h => ?_) (fun cdv A outer s H vs Q E hr h => ?_)
  · obtain ⟨z, ws, rs, post, rfl, h1, _, h2, _⟩ := h
    rw [List.length_cons, (AgLZ.agl h2).length, len rs post h1]
  · obtain ⟨z, ws, rs, post, rfl, h1, hz, h2, h3⟩ := h
    obtain ⟨t, d, bp⟩ := body rs post h1 f cdv A outer s H E hr
    refine ⟨t, PSs.nox d, ?_⟩
    refine bp (delH z H) (delH z H) z _ (Same.refl _) ⟨fun v G r hr sm pz a => ?_, fun _ _ _ hn _ => hn.elim⟩ _ H (ps_start h2 hz hN)
    exact h3 v G r hr (sz_back hz sm pz) pz (resz_back a)
end
end RP
end
section
set_option autoImplicit false
set_option maxHeartbeats 4000000
namespace RP
open PySem PySem.Spec PyProof.Rows L2
def IntP (A : Int → Prop) : Rk → Prop := fun r => ∃ x, r = .d (.int x) ∧ A x
def DatP (A : PyData → Prop) : Rk → Prop := fun r => ∃ x, r = .d x ∧ A x
section
variable {K : PySem.W.Frag} {B : Hp} {p : Nat} {Γ : List Sl} {te ta tb ti : TE} {tr : TA} {P P1 P3 : Rk → Prop} {A A1 A3 : Int → Prop} {post : Rk → Prop} {nx : List Sl → Prop} {tS uS : TS} {r r1 r2 : Rk}
theorem semp_ix {c : Nat} (hc : c < 3) : SemP B p K Γ (tOp (rIxL K) (tVar p) (tC (.int c))) (IntP fun _ => True) := fun H0 σ H z Q _ s q => by
  obtain ⟨i, j, k, rp⟩ := s.ex
  have pz := s.at.1
  have hg : (Γ.set p (.l (potL i j k)))[p]? = some (.l (potL i j k)) := by rw [List.getElem?_set_self s.pl]
  have hx : ∃ x, atI (potL i j k) (c : Int) = some (.int x) := by
    rcases (show c = 0 ∨ c = 1 ∨ c = 2 by omega) with rfl | rfl | rfl
    · exact ⟨i, rfl⟩
    · exact ⟨j, rfl⟩
    · exact ⟨k, rfl⟩
  obtain ⟨x, hx⟩ := hx
  exact sem_op (sem_varL hg) sem_int (rvd_ixL hx) H0 σ H Q rp fun v H' e a => q v H' (.d (.int x)) ⟨x, rfl, trivial⟩ (SZ.of pz e) (s.mono e) ⟨a, fun z => by cases z⟩
theorem semp_int {i : Int} : SemP B p K Γ (tC (.int i)) (IntP fun x => x = i) := (semp_d fun _ _ _ => sem_int).mono fun r e => ⟨i, e, rfl⟩
theorem semp_varI {q : Nat} {x : Int} (hq : q ≠ p) (h : Γ[q]? = some (.d (.int x))) : SemP B p K Γ (tVar q) (IntP fun y => y = x) := (semp_d fun i j k => sem_var (by rw [List.getElem?_set_ne (Ne.symm hq)]; exact h)).mono fun r e => ⟨x, e, rfl⟩
theorem semp_varD {q : Nat} {x : PyData} (hq : q ≠ p) (h : Γ[q]? = some (.d x)) : SemP B p K Γ (tVar q) (fun r => r = .d x) := semp_d fun i j k => sem_var (by rw [List.getElem?_set_ne (Ne.symm hq)]; exact h)
theorem semp_opI {o : R2} {A : PyData → Prop} (ha : SemP B p K Γ ta (IntP A1)) (hb : SemP B p K Γ tb (IntP A3)) (h : ∀ x y, A1 x → A3 y → ∃ z, A z ∧ RvD K o (.d (.int x)) (.d (.int y)) (.d z)) : SemP B p K Γ (tOp o ta tb) (DatP A) :=
  semp_op ha hb fun r1 r2 ⟨x, e1, h1⟩ ⟨y, e2, h2⟩ => by
    subst e1 e2
    obtain ⟨z, hz, rv⟩ := h x y h1 h2
    exact ⟨.d z, ⟨z, rfl, hz⟩, fun xs e => (by cases e), rv⟩
theorem semp_opJ {o : R2} {f : Int → Int → Int} (ha : SemP B p K Γ ta (IntP A1)) (hb : SemP B p K Γ tb (IntP A3)) (h : ∀ x y, A1 x → A3 y → A (f x y) ∧ RvD K o (.d (.int x)) (.d (.int y)) (.d (.int (f x y)))) : SemP B p K Γ (tOp o ta tb) (IntP A) :=
  semp_op ha hb fun r1 r2 ⟨x, e1, h1⟩ ⟨y, e2, h2⟩ => by
    subst e1 e2
    obtain ⟨hz, rv⟩ := h x y h1 h2
    exact ⟨_, ⟨_, rfl, hz⟩, fun xs e => (by cases e), rv⟩
theorem semp_add (ha : SemP B p K Γ ta (IntP A1)) (hb : SemP B p K Γ tb (IntP A3)) (h : ∀ x y, A1 x → A3 y → A (x + y)) : SemP B p K Γ (tOp (rI0 fun i j => .int (i + j)) ta tb) (IntP A) := semp_opJ ha hb fun x y h1 h2 => ⟨h x y h1 h2, rvd_add⟩
theorem semp_sub (ha : SemP B p K Γ ta (IntP A1)) (hb : SemP B p K Γ tb (IntP A3)) (h : ∀ x y, A1 x → A3 y → A (x - y)) : SemP B p K Γ (tOp (rI0 fun i j => .int (i - j)) ta tb) (IntP A) := semp_opJ ha hb fun x y h1 h2 => ⟨h x y h1 h2, rvd_sub⟩
theorem semp_mul (ha : SemP B p K Γ ta (IntP A1)) (hb : SemP B p K Γ tb (IntP A3)) (hc : ∀ x y, A1 x → A3 y → CMul x y) (h : ∀ x y, A1 x → A3 y → A (x * y)) : SemP B p K Γ (tOp (rI CMul fun i j => .int (i * j)) ta tb) (IntP A) := semp_opJ ha hb fun x y h1 h2 => ⟨h x y h1 h2, rvd_I (hc x y h1 h2) fun _ => .int _⟩
theorem semp_mod (ha : SemP B p K Γ ta (IntP A1)) (hb : SemP B p K Γ tb (IntP A3)) (hc : ∀ y, A3 y → 0 < y) (h : ∀ x y, A1 x → A3 y → A (x % y)) : SemP B p K Γ (tOp (rI (fun _ j => 0 < j) fun i j => .int (i % j)) ta tb) (IntP A) := semp_opJ ha hb fun x y h1 h2 => ⟨h x y h1 h2, rvd_I (hc y h2) fun _ => .int _⟩
theorem semp_fdiv (ha : SemP B p K Γ ta (IntP A1)) (hb : SemP B p K Γ tb (IntP A3)) (hc : ∀ y, A3 y → 0 < y ∧ y < 1073741824) (h : ∀ x y, A1 x → A3 y → A (x / y)) : SemP B p K Γ (tOp (rI CDiv fun i j => .int (i / j)) ta tb) (IntP A) := semp_opJ ha hb fun x y h1 h2 => ⟨h x y h1 h2, rvd_I (hc y h2) fun _ => .int _⟩
theorem semp_pow {i j : Int} (hc : CPow i j) : SemP B p K Γ (tOp (rI CPow fun i j => .int (i ^ j.toNat)) (tC (.int i)) (tC (.int j))) (IntP fun x => x = i ^ j.toNat) := semp_opJ (f := fun i j => i ^ j.toNat) semp_int semp_int fun x y h1 h2 => by subst h1 h2; exact ⟨rfl, rvd_I hc fun _ => .int _⟩
theorem sempt_cmp {o : R2} {f : Int → Int → Bool} (ha : SemP B p K Γ ta (IntP A1)) (hb : SemP B p K Γ tb (IntP A3)) (h : ∀ x y, RvD K o (.d (.int x)) (.d (.int y)) (.d (.bool (f x y)))) : SemPT B p K Γ (tB (tOp o ta tb)) (fun c => ∃ x y, A1 x ∧ A3 y ∧ c = f x y) :=
  sempt_B (P := fun r => ∃ x y, A1 x ∧ A3 y ∧ r = .d (.bool (f x y))) (semp_op ha hb fun r1 r2 ⟨x, e1, h1⟩ ⟨y, e2, h2⟩ => by
    subst e1 e2
    exact ⟨_, ⟨x, y, h1, h2, rfl⟩, fun xs e => (by cases e), h x y⟩) fun r ⟨x, y, h1, h2, e⟩ => ⟨f x y, e, x, y, h1, h2, rfl⟩
theorem IntP.mono {A A' : Int → Prop} (h : ∀ x, A x → A' x) : ∀ r, IntP A r → IntP A' r := fun r ⟨x, e, hx⟩ => ⟨x, e, h x hx⟩
/-- a value goes to a slot, then on -/
theorem bp_setI {i : Nat} (h : SemP B p K Γ te (IntP A)) (hip : i ≠ p) (rest : ∀ x, A x → BP B p K (Γ.set i (.d (.int x))) uS post nx) : BP B p K Γ (tSeq (tAsg te (gName i)) uS) post nx :=
  bp_seq (nx1 := fun Γ1 => ∃ x, A x ∧ Γ1 = Γ.set i (.d (.int x))) (bp_set h hip fun r ⟨x, e, hx⟩ => ⟨x, hx, by subst e; rfl⟩) fun Γ1 ⟨x, hx, e⟩ => e ▸ rest x hx
/-- pot[c] = e -/
theorem bp_setPot {c : Nat} (hc : c < 3) (h : SemP B p K Γ te (IntP A)) (hn : nx Γ) : BP B p K Γ (tAsg te (gSub (tVar p) (tC (.int c)) rSetL)) post nx := fun H0 z D b e σ H s =>
  h H0 σ H z _ b s fun v H1 r hr e1 s1 a1 => by
    obtain ⟨x, rfl, hx⟩ := hr
    have ev := Dt.isInt a1.1
    subst ev
    obtain ⟨⟨i, j, k, hz⟩, _⟩ := s1.at
    refine ⟨_, s.hz, z, _, (c : Int), c, rfl, rfl, hz, ?_, ?_⟩
    · unfold ixN
      rw [if_pos (by omega), if_pos (by simp only [List.length_cons, List.length_nil]; omega), Int.toNat_natCast]
    · rcases (show c = 0 ∨ c = 1 ∨ c = 2 by omega) with rfl | rfl | rfl
      · exact e.2 σ _ _ hn (s1.change x j k).1
      · exact e.2 σ _ _ hn (s1.change i x k).1
      · exact e.2 σ _ _ hn (s1.change i j x).1
end
section
variable {P : Program} {w : World} {K : PySem.W.Frag} {mg : Str → Option Value} {base : Heap}
def InR (m : Int) : Rk → Prop := IntP fun x => 0 ≤ x ∧ x < m
def pr_draw : List Rk → (Rk → Prop) → Prop := fun rs post => ∃ m : Int, rs = [.d (.int m)] ∧ 0 < m ∧ m < 1073741824 ∧ post = InR m
theorem mod_in {x m : Int} (h : 0 < m) : 0 ≤ x % m ∧ x % m < m := ⟨Int.emod_nonneg _ (by omega), Int.emod_lt_of_pos _ h⟩
theorem w_law_draw (T : Tx K mg) : Df P w K mg base CX0 1 "_law_draw" p_law_draw (spP K pr_draw) := by
  refine df_pot (N := n_law_draw) (k := 0) T.f_law_draw (fun _ _ _ _ _ _ us hl => match us, hl with | [_, _], _ => rfl) sc_law_draw (by decide) (fun rs post h => by obtain ⟨m, rfl, _⟩ := h; rfl) ?_
  intro rs post h fa cdv A outer sh H E hr
  refine ⟨_, (pss_cons (ps_if (pt_cmpR op_gt (pe_ix ix_list (pv 0) pe_int (fun _ _ => rfl)) pe_int (nomark _)) (pss_cons (ps_set (i := 2) sc_law_draw.nd rfl (Or.inl rfl) (pe_op op_mod (pe_ix ix_list (pv 0) pe_int (fun _ _ => rfl)) (pv 1)))
    (pss_cons (ps_asg (pe_op op_fdiv (pe_ix ix_list (pv 0) pe_int (fun _ _ => rfl)) (pv 1)) (pg_sub (pv 0) pe_int set_list))
    (pss_one (ps_ret (pv 2))))) pss_nil)
    (pss_cons (ps_asg (pe_op op_add (pe_ix ix_list (pv 0) pe_int (fun _ _ => rfl)) pe_int) (pg_sub (pv 0) pe_int set_list))
    (pss_cons (ps_set (i := 3) sc_law_draw.nd rfl (Or.inl rfl) (pe_op op_mod (pe_op op_add (pe_ix ix_list (pv 0) pe_int (fun _ _ => rfl)) (pe_op op_mul pe_int (pe_ix ix_list (pv 0) pe_int (fun _ _ => rfl)))) pe_int))
    (pss_cons (ps_set (i := 4) sc_law_draw.nd rfl (Or.inl rfl) (pe_op op_mul (pe_op op_mod (pe_op op_mul (pv 3) (pv 3)) pe_int) (pv 3)))
    (pss_cons (ps_set (i := 4) sc_law_draw.nd rfl (Or.inl rfl) (pe_op op_mod (pe_op op_add (pe_op op_add (pv 4) (pe_op op_mul pe_int (pe_ix ix_list (pv 0) pe_int (fun _ _ => rfl)))) (pe_op op_mod (pe_ix ix_list (pv 0) pe_int (fun _ _ => rfl)) pe_int)) pe_int))
    (pss_one (ps_ret (pe_op op_mod (pe_op op_fdiv (pe_op op_mod (pe_op op_mul (pv 4) (pv 4)) pe_int) pe_int) (pv 1))))))))), ?_⟩
  obtain ⟨m, rfl, hm, hm2, rfl⟩ := h
  intro B
  have pot : ∀ {Γ : List Sl} (c : Nat), c < 3 → SemP B 0 K Γ (tOp (rIxL K) (tVar 0) (tC (.int c))) (IntP fun _ => True) := fun c hc => semp_ix hc
  refine bp_seq (nx1 := fun Γ1 => Γ1 = slots n_law_draw [potG, .d (.int m)]) (bp_if (sempt_cmp (pot 0 (by decide)) semp_int fun _ _ => rvd_gt) (fun _ => ?_) (fun _ => bp_next rfl)) ?_
  · refine bp_setI (A := fun x => 0 ≤ x ∧ x < m) (semp_mod (pot 0 (by decide)) (semp_varI (by decide) rfl) (fun y e => by subst e; exact hm) fun x y _ e => by subst e; exact mod_in hm) (by decide) fun x hx => ?_
    refine bp_seq (nx1 := fun Γ1 => Γ1 = _) (bp_setPot (c := 0) (A := fun _ => True) (by decide) (semp_fdiv (pot 0 (by decide)) (semp_varI (x := m) (by decide) rfl) (fun y e => by subst e; exact ⟨hm, hm2⟩) fun _ _ _ _ => trivial) rfl) ?_
    rintro Γ1 rfl
    exact bp_ret (semp_varI (x := x) (by decide) rfl) fun r ⟨y, e, h⟩ => ⟨y, e, by subst h; exact hx⟩
  · rintro Γ1 rfl
    refine bp_seq (nx1 := fun Γ1 => Γ1 = _) (bp_setPot (c := 2) (A := fun _ => True) (by decide) (semp_add (pot 2 (by decide)) semp_int fun _ _ _ _ => trivial) rfl) ?_
    rintro Γ1 rfl
    refine bp_setI (A := fun x => 0 ≤ x ∧ x < 18014398509481951) (semp_mod (A1 := fun _ => True) (semp_add (pot 1 (by decide)) (semp_mul (A := fun _ => True) semp_int (pot 2 (by decide)) (fun x y e _ => Or.inl (by subst e; decide)) fun _ _ _ _ => trivial) fun _ _ _ _ => trivial) semp_int (fun y e => by subst e; decide) fun x y _ e => by subst e; exact mod_in (by decide)) (by decide) fun one h1 => ?_
    have c1 : ∀ x y : Int, x = one → y = one → CMul x y := fun x y e1 e2 => Or.inl (by subst e1; omega)
    refine bp_setI (A := fun _ => True) (semp_mul (A1 := fun x => 0 ≤ x ∧ x < 36028797018963913) (semp_mod (A1 := fun _ => True) (semp_mul (semp_varI (by decide) rfl) (semp_varI (by decide) rfl) c1 fun _ _ _ _ => trivial) semp_int (fun y e => by subst e; decide) fun x y _ e => by subst e; exact mod_in (by decide)) (semp_varI (x := one) (by decide) rfl) (fun x y h _ => Or.inl (by omega)) fun _ _ _ _ => trivial) (by decide) fun two _ => ?_
    refine bp_setI (A := fun x => 0 ≤ x ∧ x < 1125899906842597) (semp_mod (A1 := fun _ => True) (semp_add (A1 := fun _ => True) (A3 := fun _ => True) (semp_add (A1 := fun x => x = two) (A3 := fun _ => True) (semp_varI (by decide) rfl) (semp_mul (A1 := fun x => x = 2654435761) semp_int (pot 2 (by decide)) (fun x y e _ => Or.inl (by subst e; decide)) fun _ _ _ _ => trivial) fun _ _ _ _ => trivial) (semp_mod (A3 := fun x => x = 65521) (pot 1 (by decide)) semp_int (fun y e => by subst e; decide) fun _ _ _ _ => trivial) fun _ _ _ _ => trivial) semp_int (fun y e => by subst e; decide) fun x y _ e => by subst e; exact mod_in (by decide)) (by decide) fun two h2 => ?_
    have c2 : ∀ x y : Int, x = two → y = two → CMul x y := fun x y e1 e2 => Or.inl (by subst e1; omega)
    exact bp_ret (semp_mod (A1 := fun _ => True) (semp_fdiv (A1 := fun _ => True) (A3 := fun x => x = 512) (semp_mod (A1 := fun _ => True) (A3 := fun x => x = 562949953421231) (semp_mul (semp_varI (by decide) rfl) (semp_varI (by decide) rfl) c2 fun _ _ _ _ => trivial) semp_int (fun y e => by subst e; decide) fun _ _ _ _ => trivial) semp_int (fun y e => by subst e; decide) fun _ _ _ _ => trivial) (semp_varI (x := m) (by decide) rfl) (fun y e => by subst e; exact hm) fun x y _ e => by subst e; exact mod_in hm) fun r h => h
end
end RP
end
section
set_option autoImplicit false
set_option maxHeartbeats 2000000
namespace RP
open PySem
def lW : Nat → Nat
  | 0 => 1
  | l + 1 => 1 + 6 * lW l
def lN : Nat → Nat
  | 0 => 4
  | l + 1 => 1 + 4 * lN l
def lS : Nat → Nat
  | 0 => 1
  | l + 1 => 1000000000 * lS l
structure RJ (l : Nat) (j : Job) : Prop where
  good : j.Good
  w : wP.Pt 4 j ≤ lW l
  wi : ∀ p, wP.It 4 p j ≤ lW l
  n : j.nodes ≤ lN l
  e : dP.Pt 4 j ≤ 2 + 2 * l
  ei : ∀ p, dP.It 4 p j ≤ 2 + 2 * l
  D : j.depth ≤ 3 + l
  s : j.steps ≤ lS l
theorem RJ.up {l : Nat} {j : Job} (h : RJ l j) : RJ (l + 1) j := by
  obtain ⟨a, b, c, d, e, f, g, i⟩ := h
  refine ⟨a, by rw [lW]; omega, fun p => by have := c p; rw [lW]; omega, by rw [lN]; omega, by omega, fun p => by have := f p; omega, by omega, by rw [lS]; omega⟩
theorem RJ.held {j : Job} (h : RJ 2 j) : Held 4 j := by
  obtain ⟨a, b, c, d, e, f, g, i⟩ := h
  refine ⟨a, d, by omega, i, b, e⟩
theorem maxN_big : 1000000000 * 1000000000 ≤ maxN := by decide +kernel
theorem rj_step {i : Int} (h : -(maxN : Int) ≤ i ∧ i ≤ (maxN : Int)) : RJ 0 (.step i) := by
  refine ⟨by rw [Job.Good]; exact h, by simp [Pot.Pt, lW], fun p => by simp [Pot.It, lW], by simp [Job.nodes, lN], by simp [Pot.Pt], fun p => by simp [Pot.It], by simp [Job.depth], by simp [Job.steps, lS]⟩
theorem wP_sc (n x : Nat) : wP.sc 4 n x ≤ 6 * x := Nat.mul_le_mul_right _ (by omega)
theorem dP_sc (n x : Nat) : dP.sc 4 n x ≤ x := by
  show (if n = 0 then 0 else x) ≤ x
  split <;> omega
theorem rj_none (p : Bool) : RJ 0 (.grp p []) := by
  refine ⟨by simp [Job.Good, Job.stepsL, Job.GoodL], by simp [Pot.Pt, lW], fun q => ?_, by simp [Job.nodes, Job.nodesL, lN], by simp [Pot.Pt], fun q => ?_, by simp [Job.depth, Job.depths], by simp [Job.steps, Job.stepsL, lS]⟩
  · cases p <;> cases q <;> simp [Pot.It, Pot.ItL, lW]
  · cases p <;> cases q <;> simp [Pot.It, Pot.ItL]
theorem rj_off {c : Bool} {j : Job} (hg : j.Good) (hn : j.nodes ≤ 3) (hd : j.depth ≤ 2) : RJ 0 (.mul c 0 j) := by
  have s0 : ∀ x, wP.sc 4 0 x = 0 := fun x => by show min 0 6 * x = 0; simp
  have s1 : ∀ x, dP.sc 4 0 x = 0 := fun x => rfl
  have a0 : wP.a = 1 := rfl
  have a1 : dP.a = 2 := rfl
  refine ⟨by simp [Job.Good, hg], by rw [Pot.Pt, s0, a0]; exact Nat.le_refl _, fun q => ?_, by rw [Job.nodes, lN]; omega, by rw [Pot.Pt, s1, a1]; omega, fun q => ?_, by rw [Job.depth]; omega, by simp [Job.steps, lS]⟩
  · rw [Pot.It, s0, a0, lW]
    split <;> omega
  · rw [Pot.It, s1, a1]
    split <;> omega
theorem rj_itL {l : Nat} {p : Bool} : ∀ {js : List Job}, (∀ j ∈ js, RJ l j) → wP.ItL 4 p js ≤ js.length * lW l ∧ dP.ItL 4 p js ≤ 2 + 2 * l
  | [], _ => ⟨by simp [Pot.ItL], by simp [Pot.ItL]⟩
  | j :: js, h => by
    have ih := rj_itL (p := p) fun x hx => h x (List.mem_cons_of_mem _ hx)
    have hj := h j List.mem_cons_self
    have h1 := hj.wi p
    have h2 := hj.ei p
    rw [Pot.ItL, Pot.ItL, List.length_cons, Nat.add_mul, Nat.one_mul]
    refine ⟨?_, Nat.max_le.mpr ⟨h2, ih.2⟩⟩
    show wP.It 4 p j + wP.ItL 4 p js ≤ _
    omega
theorem rj_sums {l : Nat} : ∀ {js : List Job}, (∀ j ∈ js, RJ l j) → Job.nodesL js ≤ js.length * lN l ∧ Job.stepsL js ≤ js.length * lS l ∧ Job.depths js ≤ 3 + l ∧ Job.GoodL js
  | [], _ => ⟨by simp [Job.nodesL], by simp [Job.stepsL], by simp [Job.depths], by simp [Job.GoodL]⟩
  | j :: js, h => by
    obtain ⟨i1, i2, i3, i4⟩ := rj_sums fun x hx => h x (List.mem_cons_of_mem _ hx)
    have hj := h j List.mem_cons_self
    have h1 := hj.n
    have h2 := hj.s
    have h3 := hj.D
    rw [Job.nodesL, Job.stepsL, Job.depths, Job.GoodL, List.length_cons, Nat.add_mul, Nat.one_mul, Nat.add_mul, Nat.one_mul]
    exact ⟨by omega, by omega, Nat.max_le.mpr ⟨h3, i3⟩, hj.good, i4⟩
theorem lS_le {l : Nat} (h : l ≤ 1) : lS l ≤ 1000000000 := by
  rcases (show l = 0 ∨ l = 1 by omega) with rfl | rfl <;> decide +kernel
theorem rj_grp {l : Nat} {p : Bool} {js : List Job} (h : ∀ j ∈ js, RJ l j) (hl : js.length ≤ 4) (h1 : l ≤ 1) : RJ (l + 1) (.grp p js) := by
  obtain ⟨s1, s2, s3, s4⟩ := rj_sums h
  have m1 : js.length * lN l ≤ 4 * lN l := Nat.mul_le_mul_right _ hl
  have m2 : js.length * lS l ≤ 4 * lS l := Nat.mul_le_mul_right _ hl
  have m3 : js.length * lW l ≤ 4 * lW l := Nat.mul_le_mul_right _ hl
  have b := maxN_big
  have bl := lS_le h1
  have a0 : wP.a = 1 := rfl
  have a1 : dP.a = 2 := rfl
  have wl : ∀ q, wP.ItL 4 q js ≤ 4 * lW l := fun q => Nat.le_trans (rj_itL h).1 m3
  have dl : ∀ q, dP.ItL 4 q js ≤ 2 + 2 * l := fun q => (rj_itL h).2
  refine ⟨?_, ?_, fun q => ?_, ?_, ?_, fun q => ?_, ?_, ?_⟩
  · rw [Job.Good]
    exact ⟨by omega, s4⟩
  · rw [Pot.Pt, a0, lW]
    have := wl p
    split <;> omega
  · rw [Pot.It, a0, lW]
    have := wl p
    have := wl q
    split
    · omega
    · split
      · split <;> omega
      · omega
  · rw [Job.nodes, lN]
    omega
  · rw [Pot.Pt, a1]
    have := dl p
    split <;> omega
  · rw [Pot.It, a1]
    have := dl p
    have := dl q
    split
    · omega
    · split
      · split <;> omega
      · omega
  · rw [Job.depth]
    omega
  · rw [Job.steps, lS]
    omega
theorem rj_mul {l n : Nat} {c : Bool} {j : Job} (h : RJ l j) (hn : n ≤ 1000000000) (h1 : l ≤ 1) : RJ (l + 1) (.mul c n j) := by
  have b := maxN_big
  have bl := lS_le h1
  have a0 : wP.a = 1 := rfl
  have a1 : dP.a = 2 := rfl
  have hs := h.s
  have m : n * j.steps ≤ 1000000000 * lS l := Nat.mul_le_mul hn hs
  have m2 : 1000000000 * lS l ≤ 1000000000 * 1000000000 := Nat.mul_le_mul_left _ bl
  have w1 := wP_sc n (wP.Pt 4 j)
  have d1 := dP_sc n (dP.Pt 4 j)
  have h2 := h.w
  have h3 := h.e
  have h4 := h.n
  have h5 := h.D
  refine ⟨?_, ?_, fun q => ?_, ?_, ?_, fun q => ?_, ?_, ?_⟩
  · rw [Job.Good]
    exact ⟨by omega, by omega, h.good⟩
  · rw [Pot.Pt, a0, lW]
    omega
  · rw [Pot.It, a0, lW]
    split <;> omega
  · rw [Job.nodes, lN]
    omega
  · rw [Pot.Pt, a1]
    omega
  · rw [Pot.It, a1]
    split <;> omega
  · rw [Job.depth]
    omega
  · rw [Job.steps, lS]
    exact m
end RP
end
section
set_option autoImplicit false
set_option maxHeartbeats 4000000
namespace RP
open PySem PySem.Spec PyProof.Rows L2
def DsP (n : Nat) (A : PyData → Prop) (rs : List Rk) : Prop := ∃ ds : List PyData, rs = ds.map Rk.d ∧ ds.length = n ∧ ∀ x ∈ ds, A x
def ListP (n : Nat) (A : PyData → Prop) (r : Rk) : Prop := ∃ ds : List PyData, r = .l ds ∧ ds.length = n ∧ ∀ x ∈ ds, A x
def VarP (n : Nat) (A : PyData → Prop) (r : Rk) : Prop := ∃ ds : List PyData, (r = .l ds ∨ r = .s ds) ∧ ds.length = n ∧ ∀ x ∈ ds, A x
section
variable {K : PySem.W.Frag} {B : Hp} {p : Nat} {Γ : List Sl} {te ta tb ti : TE} {tr : TA} {P P1 P3 : Rk → Prop} {A A1 A3 : Int → Prop} {C : PyData → Prop} {n : Nat} {post : Rk → Prop} {nx : List Sl → Prop} {tS uS : TS} {r r1 r2 : Rk}
theorem DatP.mono {C D : PyData → Prop} (h : ∀ x, C x → D x) : ∀ r, DatP C r → DatP D r := fun r ⟨x, e, hx⟩ => ⟨x, e, h x hx⟩
theorem IntP.dat (h : ∀ i, A i → C (.int i)) : ∀ r, IntP A r → DatP C r := fun r ⟨x, e, hx⟩ => ⟨_, e, h x hx⟩
theorem sempa_nilD : SemPA B p K Γ tNil (DsP 0 C) := sempa_nil.mono fun rs e => ⟨[], e, rfl, fun _ h => by cases h⟩
theorem sempa_consD (ha : SemP B p K Γ ta (DatP C)) (h : SemPA B p K Γ tr (DsP n C)) : SemPA B p K Γ (tCons ta tr) (DsP (n + 1) C) := (sempa_cons ha h).mono fun rs ⟨r, rs', ⟨x, e1, hx⟩, ⟨ds, e2, hl, hall⟩, e⟩ =>
  ⟨x :: ds, by rw [e, e1, e2]; rfl, by rw [List.length_cons, hl], fun y hy => by
    rcases List.mem_cons.mp hy with rfl | hy
    · exact hx
    · exact hall y hy⟩
theorem semp_lstD (h : SemPA B p K Γ tr (DsP n C)) (hn : n ≤ 1000) : SemP B p K Γ (tLst tr) (ListP n C) := semp_lst h fun rs ⟨ds, e, hl, hall⟩ => ⟨ds, e, by omega, ds, rfl, hl, hall⟩
theorem ListP.var : ∀ r, ListP n C r → VarP n C r := fun r ⟨ds, e, h⟩ => ⟨ds, .inl e, h⟩
theorem atI_in {ds : List PyData} {i : Int} (h0 : 0 ≤ i) (h1 : i < ds.length) : ∃ x, atI ds i = some x ∧ x ∈ ds := by
  obtain ⟨k, rfl⟩ := Int.eq_ofNat_of_zero_le h0
  have hk : k < ds.length := by omega
  refine ⟨ds[k], ?_, List.getElem_mem hk⟩
  show (ixN ds.length (k : Int)).bind (fun j => ds[j]?) = _
  unfold ixN
  rw [if_pos (by omega), if_pos (by omega), Int.toNat_natCast]
  exact List.getElem?_eq_getElem hk
theorem semp_ixV (ha : SemP B p K Γ ta (VarP n C)) (hb : SemP B p K Γ tb (InR n)) : SemP B p K Γ (tOp (rIxL K) ta tb) (DatP C) := semp_op ha hb fun r1 r2 ⟨ds, e1, hl, hall⟩ ⟨i, e2, h0, h1⟩ => by
  obtain ⟨x, hx, hm⟩ := atI_in h0 (by rw [hl]; exact h1)
  subst e2
  refine ⟨.d x, ⟨x, rfl, hall x hm⟩, fun xs e => (by cases e), ?_⟩
  rcases e1 with rfl | rfl
  · exact rvd_ixL' hx
  · exact rvd_ixL hx
theorem semp_ixL (ha : SemP B p K Γ ta (ListP n C)) (hb : SemP B p K Γ tb (InR n)) : SemP B p K Γ (tOp (rIxL K) ta tb) (DatP C) := semp_ixV (ha.mono ListP.var) hb
theorem semp_varL {q : Nat} {ds : List PyData} (hq : q ≠ p) (h : Γ[q]? = some (.l ds)) (hl : ds.length = n) (hall : ∀ x ∈ ds, C x) : SemP B p K Γ (tVar q) (VarP n C) := (semp_var hq (.inl h)).mono fun r e => ⟨ds, .inr e, hl, hall⟩
theorem semp_pd {x : PyData} (h : ∀ i j k, Sem K (Γ.set p (.l (potL i j k))) te (.d x)) (hx : C x) : SemP B p K Γ te (DatP C) := (semp_d h).mono fun r e => ⟨x, e, hx⟩
theorem bp_setV {i : Nat} (h : SemP B p K Γ te (DatP C)) (hip : i ≠ p) (rest : ∀ x, C x → BP B p K (Γ.set i (.d x)) uS post nx) : BP B p K Γ (tSeq (tAsg te (gName i)) uS) post nx :=
  bp_seq (nx1 := fun Γ1 => ∃ x, C x ∧ Γ1 = Γ.set i (.d x)) (bp_set h hip fun r ⟨x, e, hx⟩ => ⟨x, hx, by subst e; rfl⟩) fun Γ1 ⟨x, hx, e⟩ => e ▸ rest x hx
theorem bp_setL {i : Nat} (h : SemP B p K Γ te (ListP n C)) (hip : i ≠ p) (rest : ∀ ds, ds.length = n → (∀ x ∈ ds, C x) → BP B p K (Γ.set i (.l ds)) uS post nx) : BP B p K Γ (tSeq (tAsg te (gName i)) uS) post nx :=
  bp_seq (nx1 := fun Γ1 => ∃ ds, ds.length = n ∧ (∀ x ∈ ds, C x) ∧ Γ1 = Γ.set i (.l ds)) (bp_set h hip fun r ⟨x, e, h1, h2⟩ => ⟨x, h1, h2, by subst e; rfl⟩) fun Γ1 ⟨x, h1, h2, e⟩ => e ▸ rest x h1 h2
end
section
variable {P : Program} {w : World} {K : PySem.W.Frag} {mg : Str → Option Value} {base : Heap} {B : Hp} {Γ : List Sl} {E : XK} {te : TE}
theorem semp_draw {m : Int} (h : 0 < m) (h2 : m < 1073741824) (ht : SemP B 0 K Γ te (IntP fun x => x = m)) : SemP B 0 K Γ (tCall (spP K pr_draw) [] E (tCons (tVar 0) (tCons te tNil))) (InR m) :=
  semp_call (sempa_cons ht sempa_nil) fun rs ⟨r, rs', ⟨x, e1, hx⟩, e2, e⟩ => ⟨InR m, ⟨m, by rw [e, e1, e2, hx], h, h2, rfl⟩, fun _ h => h⟩
def pr_great : List Rk → (Rk → Prop) → Prop := fun rs post => ∃ m : Int, rs = [.d (.int m)] ∧ 0 < m ∧ post = InR m
theorem w_law_great (T : Tx K mg) : Df P w K mg base CX0 2 "_law_great" p_law_great (spP K pr_great) := by
  have g__law_draw := w_law_draw (P := P) (w := w) (base := base) T
  refine df_pot (N := n_law_great) (k := 1) T.f_law_great (fun _ _ _ _ _ _ us hl => match us, hl with | [_, _], _ => rfl) sc_law_great (by decide) (fun rs post h => by obtain ⟨m, rfl, _⟩ := h; rfl) ?_
  intro rs post h fa cdv A outer sh H E hr
  refine ⟨_, (pss_cons (ps_set (i := 2) sc_law_great.nd rfl (Or.inl rfl) pe_int)
    (pss_cons (ps_for PassesOwn.never rfl (pi_range1 rfl T.b_range (pa_cons pe_int pa_nil)) (pg_name (i := 3) sc_law_great.nd rfl (Or.inl rfl)) (pss_one (ps_set (i := 2) sc_law_great.nd rfl (Or.inl rfl) (pe_op op_add (pe_op op_mul (pv 2) (pe_op op_pow pe_int pe_int)) (pe_df g__law_draw hr (by omega) pass0 rfl (pa_cons (pv 0) (pa_cons (pe_op op_pow pe_int pe_int) pa_nil)))))))
    (pss_one (ps_ret (pe_op op_mod (pv 2) (pv 1)))))), ?_⟩
  obtain ⟨m, rfl, hm, rfl⟩ := h
  intro B
  refine bp_setI (A := fun _ => True) (semp_int.mono (IntP.mono fun _ _ => trivial)) (by decide) fun x _ => ?_
  refine bp_seq (nx1 := fun Γ1 => ∃ (x : Int) (s : Sl), Γ1 = [potG.par, .d (.int m), .d (.int x), s]) (bp_forRange (N := fun _ => True) (Inv := fun _ _ Γ1 => ∃ (x : Int) (s : Sl), Γ1 = [potG.par, .d (.int m), .d (.int x), s]) semp_int (fun r ⟨y, e, h⟩ => ⟨4, by subst h; exact e, by omega, trivial⟩) (by decide) (fun _ _ => ⟨x, _, rfl⟩) (fun n k Γ1 _ _ ⟨x, s, e⟩ => ?_) (fun _ Γ1 _ h => h)) ?_
  · subst e
    refine bp_set (P := IntP fun _ => True) (semp_add (A3 := fun x => 0 ≤ x ∧ x < 1000000000) (semp_mul (A := fun _ => True) (semp_varI (x := x) (by decide) rfl) (semp_pow ⟨by decide, by decide, by decide⟩) (fun a b _ e => Or.inr (by subst e; decide)) fun _ _ _ _ => trivial) (semp_draw (by decide) (by decide) (semp_pow ⟨by decide, by decide, by decide⟩)) fun _ _ _ _ => trivial) (by decide) fun r ⟨y, e, _⟩ => ⟨y, _, by subst e; rfl⟩
  · rintro Γ1 ⟨x, s, rfl⟩
    exact bp_ret (semp_mod (semp_varI (x := x) (by decide) rfl) (semp_varI (x := m) (by decide) rfl) (fun y e => by subst e; exact hm) fun x y _ e => by subst e; exact mod_in hm) fun r h => h
theorem semp_great {m : Int} (h : 0 < m) (ht : SemP B 0 K Γ te (IntP fun x => x = m)) : SemP B 0 K Γ (tCall (spP K pr_great) [] E (tCons (tVar 0) (tCons te tNil))) (InR m) :=
  semp_call (sempa_cons ht sempa_nil) fun rs ⟨r, rs', ⟨x, e1, hx⟩, e2, e⟩ => ⟨InR m, ⟨m, by rw [e, e1, e2, hx], h, rfl⟩, fun _ h => h⟩
/-- steps that are drawn -/
def StpD : PyData → Prop := fun x => ∃ i : Int, x = .int i ∧ -maxN ≤ i ∧ i ≤ maxN
def pr_drawn_step : List Rk → (Rk → Prop) → Prop := fun rs post => rs = [] ∧ post = DatP StpD
theorem stp_of {A : Int → Prop} (h : ∀ i, A i → -1000000000000000000000000000000 ≤ i ∧ i ≤ 1000000000000000000000000000000) : ∀ r, IntP A r → DatP StpD r := IntP.dat fun i hi => ⟨i, rfl, by have := h i hi; unfold maxN; omega⟩
theorem w_law_drawn_step (T : Tx K mg) : Df P w K mg base CX0 3 "_law_drawn_step" p_law_drawn_step (spP K pr_drawn_step) := by
  have g__law_draw := w_law_draw (P := P) (w := w) (base := base) T
  have g__law_great := w_law_great (P := P) (w := w) (base := base) T
  refine df_pot (N := n_law_drawn_step) (k := 2) T.f_law_drawn_step (fun _ _ _ _ _ _ us hl => match us, hl with | [_], _ => rfl) sc_law_drawn_step (by decide) (fun rs post h => by obtain ⟨rfl, _⟩ := h; rfl) ?_
  intro rs post h fa cdv A outer sh H E hr
  refine ⟨_, (pss_cons (ps_set (i := 1) sc_law_drawn_step.nd rfl (Or.inl rfl) (pe_df g__law_draw hr (by omega) pass0 rfl (pa_cons (pv 0) (pa_cons pe_int pa_nil))))
    (pss_cons (ps_if (pt_cmpR op_lt (pv 1) pe_int (nomark _)) (pss_one (ps_ret (pe_op op_sub (pe_df g__law_draw hr (by omega) pass0 rfl (pa_cons (pv 0) (pa_cons pe_int pa_nil))) pe_int))) pss_nil)
    (pss_cons (ps_if (pt_cmpR op_lt (pv 1) pe_int (nomark _)) (pss_one (ps_ret (pe_ix ix_list (pe_lst (pa_cons pe_int (pa_cons pe_int (pa_cons (pe_un un_neg pe_int) (pa_cons pe_int (pa_cons (pe_un un_neg pe_int) (pa_cons pe_int pa_nil))))))) (pe_df g__law_draw hr (by omega) pass0 rfl (pa_cons (pv 0) (pa_cons pe_int pa_nil))) (fun _ _ => rfl)))) pss_nil)
    (pss_cons (ps_if (pt_cmpR op_lt (pv 1) pe_int (nomark _)) (pss_one (ps_ret (pe_op op_sub (pe_df g__law_draw hr (by omega) pass0 rfl (pa_cons (pv 0) (pa_cons pe_int pa_nil))) pe_int))) pss_nil)
    (pss_cons (ps_set (i := 2) sc_law_drawn_step.nd rfl (Or.inl rfl) (pe_lst (pa_cons (pe_op op_pow pe_int pe_int) (pa_cons (pe_op op_sub pe_int (pe_op op_pow pe_int pe_int)) (pa_cons (pe_op op_pow pe_int pe_int) (pa_cons (pe_df g__law_great hr (by omega) pass0 rfl (pa_cons (pv 0) (pa_cons (pe_op op_pow pe_int pe_int) pa_nil))) (pa_cons (pe_op op_sub pe_int (pe_df g__law_great hr (by omega) pass0 rfl (pa_cons (pv 0) (pa_cons (pe_op op_pow pe_int pe_int) pa_nil)))) pa_nil)))))))
    (pss_one (ps_ret (pe_ix ix_list (pv 2) (pe_df g__law_draw hr (by omega) pass0 rfl (pa_cons (pv 0) (pa_cons pe_int pa_nil))) (fun _ _ => rfl))))))))), ?_⟩
  obtain ⟨rfl, rfl⟩ := h
  intro B
  refine bp_setI (semp_draw (m := 12) (by decide) (by decide) semp_int) (by decide) fun way hw => ?_
  refine bp_seq (nx1 := fun Γ1 => Γ1 = slots n_law_drawn_step [potG, .d (.int way)]) (bp_if (sempt_cmp (semp_varI (x := way) (by decide) rfl) semp_int fun _ _ => rvd_lt) (fun _ => ?_) (fun _ => bp_next rfl)) ?_
  · exact bp_ret (semp_sub (A := fun x => -6 ≤ x ∧ x < 7) (semp_draw (m := 13) (by decide) (by decide) semp_int) semp_int fun x y h e => by omega) (stp_of fun i h => by omega)
  rintro Γ1 rfl
  refine bp_seq (nx1 := fun Γ1 => Γ1 = slots n_law_drawn_step [potG, .d (.int way)]) (bp_if (sempt_cmp (semp_varI (x := way) (by decide) rfl) semp_int fun _ _ => rvd_lt) (fun _ => ?_) (fun _ => bp_next rfl)) ?_
  · have num : ∀ {Γ : List Sl} (i : Int), (-10 ≤ i ∧ i ≤ 10) → SemP B 0 K Γ (tC (.int i)) (DatP StpD) := fun i h => semp_int.mono (stp_of fun x e => by subst e; omega)
    have neg : ∀ {Γ : List Sl} (i : Int), (-10 ≤ i ∧ i ≤ 10) → SemP B 0 K Γ (tUn (rU fun i => .int (-i)) (tC (.int i))) (DatP StpD) := fun i h => semp_pd (fun _ _ _ => sem_neg sem_int) ⟨-i, rfl, by unfold maxN; omega⟩
    exact bp_ret (semp_ixL (semp_lstD (n := 6) (sempa_consD (num 0 (by decide)) (sempa_consD (num 1 (by decide)) (sempa_consD (neg 1 (by decide)) (sempa_consD (num 2 (by decide)) (sempa_consD (neg 2 (by decide)) (sempa_consD (num 9 (by decide)) sempa_nilD)))))) (by decide)) (semp_draw (m := 6) (by decide) (by decide) semp_int)) fun r h => h
  rintro Γ1 rfl
  refine bp_seq (nx1 := fun Γ1 => Γ1 = slots n_law_drawn_step [potG, .d (.int way)]) (bp_if (sempt_cmp (semp_varI (x := way) (by decide) rfl) semp_int fun _ _ => rvd_lt) (fun _ => ?_) (fun _ => bp_next rfl)) ?_
  · exact bp_ret (semp_sub (A := fun x => -100 ≤ x ∧ x < 101) (semp_draw (m := 201) (by decide) (by decide) semp_int) semp_int fun x y h e => by omega) (stp_of fun i h => by omega)
  rintro Γ1 rfl
  have pw : ∀ {Γ : List Sl} (i j : Int), CPow i j → SemP B 0 K Γ (tOp (rI CPow fun i j => .int (i ^ j.toNat)) (tC (.int i)) (tC (.int j))) (IntP fun x => x = i ^ j.toNat) := fun i j h => semp_pow h
  have e30 : (10 : Int) ^ (30 : Int).toNat = 1000000000000000000000000000000 := by decide +kernel
  have e18 : (10 : Int) ^ (18 : Int).toNat = 1000000000000000000 := by decide +kernel
  refine bp_setL (n := 5) (C := StpD) (semp_lstD (sempa_consD ((pw 10 30 ⟨by decide, by decide, by decide⟩).mono (stp_of fun i e => by omega)) (sempa_consD ((semp_sub (A := fun x => x = -1000000000000000000000000000000) semp_int (pw 10 30 ⟨by decide, by decide, by decide⟩) fun x y e1 e2 => by omega).mono (stp_of fun i e => by omega)) (sempa_consD ((pw 10 18 ⟨by decide, by decide, by decide⟩).mono (stp_of fun i e => by omega)) (sempa_consD ((semp_great (by decide) (pw 10 30 ⟨by decide, by decide, by decide⟩)).mono (stp_of fun i e => by omega)) (sempa_consD ((semp_sub (A := fun x => -1000000000000000000000000000000 ≤ x ∧ x ≤ 0) semp_int (semp_great (by decide) (pw 10 30 ⟨by decide, by decide, by decide⟩)) fun x y e1 e2 => by omega).mono (stp_of fun i e => by omega)) sempa_nilD))))) (by decide)) (by decide) fun ds hl hall => ?_
  exact bp_ret (semp_ixV (semp_varL (n := 5) (by decide) rfl hl hall) (semp_draw (m := 5) (by decide) (by decide) semp_int)) fun r h => h
end
end RP
end
section
set_option autoImplicit false
set_option maxHeartbeats 4000000
namespace RP
open PySem PySem.Spec PyProof.Rows L2
def RJD (l : Nat) : PyData → Prop := fun x => ∃ j : Job, x = j.data ∧ RJ l j
theorem RJD.le {l m : Nat} (h : l ≤ m) : ∀ {x : PyData}, RJD l x → RJD m x := by
  induction m with
  | zero => intro x hx; rwa [Nat.le_zero.mp h] at hx
  | succ m ih =>
    intro x hx
    by_cases e : l = m + 1
    · subst e; exact hx
    · obtain ⟨j, e2, hj⟩ := ih (by omega) hx
      exact ⟨j, e2, hj.up⟩
theorem rjd_step {x : PyData} (h : StpD x) : RJD 0 x := by
  obtain ⟨i, rfl, hi⟩ := h
  exact ⟨.step i, by rw [Job.data], rj_step hi⟩
theorem rjd_list {l : Nat} : ∀ {ds : List PyData}, (∀ x ∈ ds, RJD l x) → ∃ js : List Job, ds = Job.datas js ∧ js.length = ds.length ∧ ∀ j ∈ js, RJ l j
  | [], _ => ⟨[], rfl, rfl, fun _ h => by cases h⟩
  | x :: ds, h => by
    obtain ⟨js, e, el, hj⟩ := rjd_list fun y hy => h y (List.mem_cons_of_mem _ hy)
    obtain ⟨j, e2, h2⟩ := h x List.mem_cons_self
    refine ⟨j :: js, by rw [Job.datas, e, e2], by rw [List.length_cons, List.length_cons, el], fun y hy => ?_⟩
    rcases List.mem_cons.mp hy with rfl | hy
    · exact h2
    · exact hj y hy
theorem rjd_grp {l : Nat} (p : Bool) {ds : List PyData} (h : ∀ x ∈ ds, RJD l x) (hl : ds.length ≤ 4) (h1 : l ≤ 1) : RJD (l + 1) (.tuple [.str (gw p), .tuple ds]) := by
  obtain ⟨js, rfl, el, hj⟩ := rjd_list h
  exact ⟨.grp p js, by rw [Job.data], rj_grp hj (by omega) h1⟩
theorem rjd_mul {l : Nat} (c : Bool) {n : Int} {x : PyData} (h : RJD l x) (h0 : 0 ≤ n) (hn : n ≤ 1000000000) (h1 : l ≤ 1) : RJD (l + 1) (.tuple [.str (mw c), .int n, x]) := by
  obtain ⟨j, rfl, hj⟩ := h
  obtain ⟨k, rfl⟩ := Int.eq_ofNat_of_zero_le h0
  exact ⟨.mul c k j, by rw [Job.data], rj_mul hj (by omega) h1⟩
section
variable {K : PySem.W.Frag} {B : Hp} {p : Nat} {Γ : List Sl} {te ta tb ti : TE} {tr : TA} {t u : TT} {C D : Bool → Prop}
theorem SemPT.mono (h : SemPT B p K Γ t C) (hC : ∀ b, C b → D b) : SemPT B p K Γ t D := fun H0 σ H z Q b s q => h H0 σ H z Q b s fun x H1 hx => q x H1 (hC x hx)
theorem sempt_or (h : SemPT B p K Γ t C) (h2 : C false → SemPT B p K Γ u D) : SemPT B p K Γ (tOr t u) (fun b => (C true ∧ b = true) ∨ (C false ∧ D b)) := fun H0 σ H z Q b s q =>
  h H0 σ H z _ b s fun x H1 hx e1 s1 => by
    cases x with
    | true => exact iteT (q true H1 (.inl ⟨hx, rfl⟩) e1 s1)
    | false => exact iteF (h2 hx H0 σ H1 z Q b s1 fun y H2 hy e2 s2 => q y H2 (.inr ⟨hx, hy⟩) (e1.trans e2) s2)
/-- one of two words -/
theorem semp_word {a b : Str} {q : Nat} {x : Int} {C : PyData → Prop} (hq : q ≠ p) (h : Γ[q]? = some (.d (.int x))) (ca : C (.str a)) (cb : C (.str b)) :
    SemP B p K Γ (tOp (rIxL K) (tLst (tCons (tC (.str a)) (tCons (tC (.str b)) tNil))) (tOp (rI (fun _ j => 0 < j) fun i j => .int (i % j)) (tVar q) (tC (.int 2)))) (DatP C) :=
  semp_ixL (n := 2) (semp_lstD (sempa_consD (semp_pd (fun _ _ _ => sem_str) ca) (sempa_consD (semp_pd (fun _ _ _ => sem_str) cb) sempa_nilD)) (by decide))
    (semp_mod (A1 := fun _ => True) ((semp_varI hq h).mono (IntP.mono fun _ _ => trivial)) semp_int (fun y e => by subst e; decide) fun x y _ e => by subst e; exact mod_in (by decide))
theorem cvd_min2 {i j : Int} : CvD K (fun xs H Q => ∃ i j, xs = [V.int i, V.int j] ∧ Q (.int (if j < i then j else i)) H) [.d (.int i), .d (.int j)] (.d (.int (if j < i then j else i))) := fun H vs Q a q => by
  match vs, a with
  | [v, u], ⟨h1, h2, _⟩ =>
    have e1 := Dt.isInt h1
    have e2 := Dt.isInt h2
    subst e1 e2
    exact ⟨i, j, rfl, q _ H (Same.refl H) (.int _)⟩
theorem semp_dI {i : Int} {A : Int → Prop} (h : ∀ a b c, Sem K (Γ.set p (.l (potL a b c))) te (.d (.int i))) (ha : A i) : SemP B p K Γ te (IntP A) := (semp_d h).mono fun r e => ⟨i, e, ha⟩
/-- (a word, data..) -/
theorem semp_tup2 {C1 C2 C : PyData → Prop} (h1 : SemP B p K Γ ta (DatP C1)) (h2 : SemP B p K Γ tb (DatP C2)) (h : ∀ x y, C1 x → C2 y → C (.tuple [x, y])) : SemP B p K Γ (tTup (tCons ta (tCons tb tNil))) (DatP C) :=
  semp_tup (sempa_cons h1 (sempa_cons h2 sempa_nil)) fun rs ⟨r1, rs1, ⟨x, e1, c1⟩, ⟨r2, rs2, ⟨y, e2, c2⟩, e3, e4⟩, e5⟩ => ⟨[x, y], by rw [e5, e4, e3, e1, e2]; rfl, by simp, _, rfl, h x y c1 c2⟩
theorem semp_tup3 {tc : TE} {C1 C2 C3 C : PyData → Prop} (h1 : SemP B p K Γ ta (DatP C1)) (h2 : SemP B p K Γ tb (DatP C2)) (h3 : SemP B p K Γ tc (DatP C3)) (h : ∀ x y z, C1 x → C2 y → C3 z → C (.tuple [x, y, z])) : SemP B p K Γ (tTup (tCons ta (tCons tb (tCons tc tNil)))) (DatP C) :=
  semp_tup (sempa_cons h1 (sempa_cons h2 (sempa_cons h3 sempa_nil))) fun rs ⟨r1, rs1, ⟨x, e1, c1⟩, ⟨r2, rs2, ⟨y, e2, c2⟩, ⟨r3, rs3, ⟨z, e3, c3⟩, e4, e5⟩, e6⟩, e7⟩ => ⟨[x, y, z], by rw [e7, e6, e5, e4, e1, e2, e3]; rfl, by simp, _, rfl, h x y z c1 c2 c3⟩
end
section
variable {P : Program} {w : World} {K : PySem.W.Frag} {mg : Str → Option Value} {base : Heap} {B : Hp} {Γ : List Sl} {E : XK} {te : TE}
theorem semp_dstep : SemP B 0 K Γ (tCall (spP K pr_drawn_step) [] E (tCons (tVar 0) tNil)) (DatP StpD) :=
  semp_call sempa_nil fun rs e => ⟨_, ⟨e, rfl⟩, fun _ h => h⟩
theorem df_noneP {CX : CXT} {st : Stmt} {x : Str} {ps : List Str} {k : Nat} {pre : List Rk → (Rk → Prop) → Prop} (hF : FnAt K mg x st)
    (hb : ∀ (kV doc pm : Value) (an : Option Addr) (cdv ct : Value) (us : List Value), us.length = ps.length → bindArgs (PySem.W.fnOf x x (defArgs st) (defBody st) (defScope st) .none kV doc pm an cdv ct) ⟨us, []⟩ = pure (ps.zip us))
    (no : ∀ rs r, ¬ pre rs r) : Df P w K mg base CX k x ps (spP K pre) := by
  obtain ⟨f, fd, F, hm⟩ := hF
  refine ⟨f, fd, ⟨fun vs H Q E h => ?_, fun A outer s H args us vs Q E _ _ _ _ h => ?_⟩, hm, F.kp, F.bindsN hb⟩
  · obtain ⟨z, ws, rs, post, _, h1, _⟩ := h
    exact absurd h1 (no rs post)
  · obtain ⟨z, ws, rs, post, _, h1, _⟩ := h
    exact absurd h1 (no rs post)
def pr_drawn_job (L : Nat) : List Rk → (Rk → Prop) → Prop := fun rs post => ∃ (u : Int) (l : Nat), rs = [.d (.int u), .d (.int ((l : Int) + 1))] ∧ 0 ≤ u ∧ u ≤ 6 ∧ l < L ∧ l ≤ 2 ∧ post = DatP (RJD l)
theorem w_law_drawn_job (T : Tx K mg) : ∀ L : Nat, Df P w K mg base CX0 (4 + L) "_law_drawn_job" p_law_drawn_job (spP K (pr_drawn_job L))
  | 0 => df_noneP T.f_law_drawn_job (fun _ _ _ _ _ _ us hl => match us, hl with | [_, _, _], _ => rfl) (fun rs r h => by obtain ⟨u, l, _, _, _, h, _⟩ := h; omega)
  | L + 1 => by
   have g__law_draw := w_law_draw (P := P) (w := w) (base := base) T
   have g__law_drawn_step := w_law_drawn_step (P := P) (w := w) (base := base) T
   have g__law_drawn_job := w_law_drawn_job T L
   refine df_pot (N := n_law_drawn_job) (k := 4 + L) T.f_law_drawn_job (fun _ _ _ _ _ _ us hl => match us, hl with | [_, _, _], _ => rfl) sc_law_drawn_job (by decide) (fun rs post h => by obtain ⟨u, l, rfl, _⟩ := h; rfl) ?_
   intro rs post h fa cdv A outer sh H E hr
   refine ⟨_, (pss_cons (ps_set (i := 3) sc_law_drawn_job.nd rfl (Or.inl rfl) (pe_df g__law_draw hr (by omega) pass0 rfl (pa_cons (pv 0) (pa_cons pe_int pa_nil))))
    (pss_cons (ps_if (pt_cmpR op_eq (pv 1) pe_int (nomark _)) (pss_one (ps_ret (pe_ix ix_list (pe_lst (pa_cons (pe_tup (pa_cons pe_str (pa_cons (pe_tup pa_nil) pa_nil))) (pa_cons (pe_tup (pa_cons pe_str (pa_cons (pe_tup pa_nil) pa_nil))) (pa_cons (pe_tup (pa_cons pe_str (pa_cons pe_int (pa_cons pe_int pa_nil)))) (pa_cons (pe_tup (pa_cons pe_str (pa_cons pe_int (pa_cons (pe_tup (pa_cons pe_str (pa_cons (pe_tup (pa_cons pe_int (pa_cons (pe_un un_neg pe_int) pa_nil))) pa_nil))) pa_nil)))) pa_nil))))) (pe_df g__law_draw hr (by omega) pass0 rfl (pa_cons (pv 0) (pa_cons pe_int pa_nil))) (fun _ _ => rfl)))) pss_nil)
    (pss_cons (ps_if (PW.pt (pw_or (pt_cmpR op_lt (pv 2) pe_int (nomark _)) (pw_or1 (pt_cmpR op_lt (pv 3) pe_int (nomark _))))) (pss_one (ps_ret (pe_df g__law_drawn_step hr (by omega) pass0 rfl (pa_cons (pv 0) pa_nil)))) pss_nil)
    (pss_cons (ps_if (pt_cmpR op_lt (pv 3) pe_int (nomark _)) (pss_cons (ps_par (i := 4) (j := 5) rfl sc_law_drawn_job.nd rfl rfl (by decide) rfl rfl (pa_cons (pe_lst pa_nil) (pa_cons (pv 1) pa_nil)) (by rfl))
    (pss_cons (ps_for PassesOwn.never rfl (pi_range1 rfl T.b_range (pa_cons (pe_op op_add pe_int (pe_df g__law_draw hr (by omega) pass0 rfl (pa_cons (pv 0) (pa_cons pe_int pa_nil)))) pa_nil)) (pg_name (i := 6) sc_law_drawn_job.nd rfl (Or.inl rfl)) (pss_cons (ps_set (i := 7) sc_law_drawn_job.nd rfl (Or.inl rfl) (pe_ifExp (pt_cmpR op_eq (pv 5) pe_int (nomark _)) pe_int (pe_op op_add pe_int (pe_df g__law_draw hr (by omega) pass0 rfl (pa_cons (pv 0) (pa_cons (pv 5) pa_nil))))))
    (pss_cons (ps_expr (pe_bm PySem.F.plainAttrs_list PySem.F.slot_list_append PySem.F.type_list_append mt_append (pv 4) (pa_cons (pe_df g__law_drawn_job hr (by omega) pass0 rfl (pa_cons (pv 0) (pa_cons (pv 7) (pa_cons (pe_op op_sub (pv 2) pe_int) pa_nil)))) pa_nil)))
    (pss_one (ps_set (i := 5) sc_law_drawn_job.nd rfl (Or.inl rfl) (pe_op op_sub (pv 5) (pv 7)))))))
    (pss_one (ps_ret (pe_tup (pa_cons (pe_ix ix_list (pe_lst (pa_cons pe_str (pa_cons pe_str pa_nil))) (pe_op op_mod (pv 3) pe_int) (fun _ _ => rfl)) (pa_cons (pe_callTy call_tuple_of rfl T.b_tuple (by decide +kernel) (pa_cons (pv 4) pa_nil)) pa_nil))))))) pss_nil)
    (pss_cons (ps_set (i := 8) sc_law_drawn_job.nd rfl (Or.inl rfl) (pe_df g__law_draw hr (by omega) pass0 rfl (pa_cons (pv 0) (pa_cons (pe_op op_add (pe_callB (call_min2 rfl) rfl T.b_min (by decide +kernel) (pa_cons (pv 1) (pa_cons pe_int pa_nil))) pe_int) pa_nil))))
    (pss_one (ps_ret (pe_tup (pa_cons (pe_ix ix_list (pe_lst (pa_cons pe_str (pa_cons pe_str pa_nil))) (pe_op op_mod (pv 3) pe_int) (fun _ _ => rfl)) (pa_cons (pv 8) (pa_cons (pe_df g__law_drawn_job hr (by omega) pass0 rfl (pa_cons (pv 0) (pa_cons (pe_op op_fdiv (pv 1) (pe_callB (call_max2 rfl) rfl T.b_max (by decide +kernel) (pa_cons pe_int (pa_cons (pv 8) pa_nil)))) (pa_cons (pe_op op_sub (pv 2) pe_int) pa_nil)))) pa_nil))))))))))), ?_⟩
   obtain ⟨u, l, rfl, hu0, hu6, hlL, hl2, rfl⟩ := h
   intro B
   refine bp_setI (semp_draw (m := 10) (by decide) (by decide) semp_int) (by decide) fun way hw => ?_
   refine bp_seq (nx1 := fun Γ1 => u ≠ 0 ∧ Γ1 = (slots n_law_drawn_job [potG, .d (.int u), .d (.int ((l : Int) + 1))]).set 3 (.d (.int way))) (bp_if (sempt_cmp (semp_varI (x := u) (by decide) rfl) semp_int fun _ _ => rvd_eqI) (fun _ => ?_) (fun ⟨x, y, e1, e2, e3⟩ => bp_next ⟨fun e => by subst e1 e2; simp [e] at e3, rfl⟩)) ?_
   · have hz : ∀ x, RJD 0 x → RJD l x := fun x h => RJD.le (Nat.zero_le l) h
     have i1 : ∀ {Γ : List Sl}, SemP B 0 K Γ (tTup (tCons (tC (.str "seq")) (tCons (tTup tNil) tNil))) (DatP (RJD l)) := semp_pd (fun _ _ _ => sem_tup (ds := [.str "seq", .tuple []]) (sema_cons sem_str (sema_cons (sem_tup (ds := []) sema_nil (by decide)) sema_nil)) (by decide)) (hz _ ⟨.grp false [], rfl, rj_none _⟩)
     have i2 : ∀ {Γ : List Sl}, SemP B 0 K Γ (tTup (tCons (tC (.str "par")) (tCons (tTup tNil) tNil))) (DatP (RJD l)) := semp_pd (fun _ _ _ => sem_tup (ds := [.str "par", .tuple []]) (sema_cons sem_str (sema_cons (sem_tup (ds := []) sema_nil (by decide)) sema_nil)) (by decide)) (hz _ ⟨.grp true [], rfl, rj_none _⟩)
     have n5 : ∀ i : Int, (-9 ≤ i ∧ i ≤ 9) → -(maxN : Int) ≤ i ∧ i ≤ (maxN : Int) := fun i h => by unfold maxN; omega
     have i3 : ∀ {Γ : List Sl}, SemP B 0 K Γ (tTup (tCons (tC (.str "repeat")) (tCons (tC (.int 0)) (tCons (tC (.int 5)) tNil)))) (DatP (RJD l)) := semp_pd (fun _ _ _ => sem_tup (ds := [.str "repeat", .int 0, .int 5]) (sema_cons sem_str (sema_cons sem_int (sema_cons sem_int sema_nil))) (by decide)) (hz _ ⟨.mul false 0 (.step 5), rfl, rj_off (by rw [Job.Good]; exact n5 5 (by decide)) (by decide) (by decide)⟩)
     have i4 : ∀ {Γ : List Sl}, SemP B 0 K Γ (tTup (tCons (tC (.str "copies")) (tCons (tC (.int 0)) (tCons (tTup (tCons (tC (.str "seq")) (tCons (tTup (tCons (tC (.int 1)) (tCons (tUn (rU fun i => .int (-i)) (tC (.int 2))) tNil))) tNil))) tNil)))) (DatP (RJD l)) :=
       semp_pd (fun _ _ _ => sem_tup (ds := [.str "copies", .int 0, .tuple [.str "seq", .tuple [.int 1, .int (-2)]]]) (sema_cons sem_str (sema_cons sem_int (sema_cons (sem_tup (ds := [.str "seq", .tuple [.int 1, .int (-2)]]) (sema_cons sem_str (sema_cons (sem_tup (ds := [.int 1, .int (-2)]) (sema_cons sem_int (sema_cons (sem_neg sem_int) sema_nil)) (by decide)) sema_nil)) (by decide)) sema_nil))) (by decide))
         (hz _ ⟨.mul true 0 (.grp false [.step 1, .step (-2)]), rfl, rj_off (by
           rw [Job.Good, Job.GoodL, Job.GoodL, Job.GoodL, Job.Good, Job.Good]
           exact ⟨by decide +kernel, n5 1 (by decide), n5 (-2) (by decide), trivial⟩) (by decide) (by decide)⟩)
     exact bp_ret (semp_ixL (semp_lstD (n := 4) (sempa_consD i1 (sempa_consD i2 (sempa_consD i3 (sempa_consD i4 sempa_nilD)))) (by decide)) (semp_draw (m := 4) (by decide) (by decide) semp_int)) fun r h => h
   rintro Γ1 ⟨hu, rfl⟩
   refine bp_seq (nx1 := fun Γ1 => 1 ≤ l ∧ Γ1 = (slots n_law_drawn_job [potG, .d (.int u), .d (.int ((l : Int) + 1))]).set 3 (.d (.int way))) (bp_if (sempt_or (sempt_cmp (semp_varI (x := (l : Int) + 1) (by decide) rfl) semp_int fun _ _ => rvd_lt) fun _ => sempt_cmp (semp_varI (x := way) (by decide) rfl) semp_int fun _ _ => rvd_lt) (fun _ => bp_ret semp_dstep (DatP.mono fun x h => RJD.le (Nat.zero_le l) (rjd_step h))) (fun h => bp_next ⟨?_, rfl⟩)) ?_
   · rcases h with ⟨_, h⟩ | ⟨⟨x, y, e1, e2, e3⟩, _⟩
     · cases h
     · subst e1 e2
       have := of_decide_eq_false e3.symm
       omega
   rintro Γ1 ⟨hl1, rfl⟩
   obtain ⟨l, rfl⟩ : ∃ m, l = m + 1 := ⟨l - 1, by omega⟩
   have hsub : ∀ {Γ : List Sl}, Γ[2]? = some (.d (.int (((l + 1 : Nat) : Int) + 1))) → SemP B 0 K Γ (tOp (rI0 fun i j => .int (i - j)) (tVar 2) (tC (.int 1))) (IntP fun x => x = (l : Int) + 1) := fun h => semp_sub (semp_varI (by decide) h) semp_int fun x y e1 e2 => by omega
   have hjob : ∀ {Γ : List Sl} {te : TE}, Γ[2]? = some (.d (.int (((l + 1 : Nat) : Int) + 1))) → SemP B 0 K Γ te (IntP fun x => 0 ≤ x ∧ x ≤ 6) → SemP B 0 K Γ (tCall (spP K (pr_drawn_job L)) [] E (tCons (tVar 0) (tCons te (tCons (tOp (rI0 fun i j => .int (i - j)) (tVar 2) (tC (.int 1))) tNil)))) (DatP (RJD l)) := fun h ht =>
     semp_call (sempa_cons ht (sempa_cons (hsub h) sempa_nil)) fun rs ⟨r, rs', ⟨x, e1, hx⟩, ⟨r2, rs2, ⟨y, e2, hy⟩, e3, e4⟩, e⟩ => ⟨_, ⟨x, l, by rw [e, e1, e4, e2, e3, hy], hx.1, hx.2, by omega, by omega, rfl⟩, fun _ h => h⟩
   refine bp_seq (nx1 := fun Γ1 => Γ1 = (slots n_law_drawn_job [potG, .d (.int u), .d (.int (((l + 1 : Nat) : Int) + 1))]).set 3 (.d (.int way))) (bp_if (sempt_cmp (semp_varI (x := way) (by decide) rfl) semp_int fun _ _ => rvd_lt) (fun _ => ?_) (fun _ => bp_next rfl)) ?_
   · refine bp_seq (nx1 := fun Γ1 => ∃ (ds : List PyData) (f : Int) (s6 s7 : Sl), Γ1 = [potG.par, .d (.int u), .d (.int (((l + 1 : Nat) : Int) + 1)), .d (.int way), .l ds, .d (.int f), s6, s7, .un] ∧ ds.length = 0 ∧ (∀ x ∈ ds, RJD l x) ∧ 0 ≤ f ∧ f ≤ 6) (bp_par (i := 4) (j := 5) (semp_l fun _ _ _ => sem_lst (ds := []) sema_nil (by decide)) (semp_varD (by decide) rfl) (by decide) (by decide) ⟨[], u, _, _, rfl, rfl, (fun _ h => by cases h), hu0, hu6⟩) ?_
     intro Γ1 inv0
     refine bp_seq (nx1 := fun Γ1 => ∃ (ds : List PyData) (f : Int) (s6 s7 : Sl), Γ1 = [potG.par, .d (.int u), .d (.int (((l + 1 : Nat) : Int) + 1)), .d (.int way), .l ds, .d (.int f), s6, s7, .un] ∧ ds.length ≤ 4 ∧ (∀ x ∈ ds, RJD l x)) (bp_forRange (N := fun n => n ≤ 4) (Inv := fun n k Γ1 => ∃ (ds : List PyData) (f : Int) (s6 s7 : Sl), Γ1 = [potG.par, .d (.int u), .d (.int (((l + 1 : Nat) : Int) + 1)), .d (.int way), .l ds, .d (.int f), s6, s7, .un] ∧ ds.length = k ∧ (∀ x ∈ ds, RJD l x) ∧ 0 ≤ f ∧ f ≤ 6)
       (P := IntP fun x => 1 ≤ x ∧ x ≤ 4) ?_ (fun r ⟨x, e, hx⟩ => ⟨x.toNat, by rw [e, Int.toNat_of_nonneg (by omega)], by omega, by omega⟩) (by decide) (fun n _ => inv0) (fun n k Γ2 hn hk inv => ?_) (fun n Γ2 hn ⟨ds, f, s6, s7, e, h1, h2, _⟩ => ⟨ds, f, s6, s7, e, by omega, h2⟩)) ?_
     · obtain ⟨ds, f, s6, s7, rfl, _⟩ := inv0
       exact semp_add semp_int (semp_draw (m := 4) (by decide) (by decide) semp_int) fun x y e h => by omega
     · obtain ⟨ds, f, s6, s7, rfl, h1, h2, hf0, hf6⟩ := inv
       refine bp_setI (A := fun x => 0 ≤ x ∧ x ≤ f) (semp_if (C := fun b => b = decide (f = 0)) (SemPT.mono (sempt_cmp (semp_varI (x := f) (by decide) rfl) semp_int fun _ _ => rvd_eqI) fun b ⟨x, y, e1, e2, e3⟩ => by rw [e3, e1, e2]) (fun e => semp_int.mono (IntP.mono fun x hx => by omega)) (fun e => ?_)) (by decide) fun few hfew => ?_
       · have hf : f ≠ 0 := of_decide_eq_false e.symm
         exact semp_add semp_int (semp_draw (m := f) (by omega) (by omega) (semp_varI (by decide) rfl)) fun x y e h => by omega
       · refine bp_seq (nx1 := fun Γ1 => ∃ x, RJD l x ∧ Γ1 = [potG.par, .d (.int u), .d (.int (((l + 1 : Nat) : Int) + 1)), .d (.int way), .l (ds ++ [x]), .d (.int f), .d (.int (k : Int)), .d (.int few), .un]) (bp_append (i := 4) (xs := ds) rfl (by decide) (hjob rfl ((semp_varI (x := few) (by decide) rfl).mono (IntP.mono fun x hx => by omega))) (by omega) fun r ⟨x, e, hx⟩ => ⟨x, e, x, hx, rfl⟩) ?_
         rintro Γ3 ⟨x, hx, rfl⟩
         refine bp_set (P := IntP fun y => 0 ≤ y ∧ y ≤ 6) (semp_sub (semp_varI (x := f) (by decide) rfl) (semp_varI (x := few) (by decide) rfl) fun a b e1 e2 => by omega) (by decide) fun r ⟨y, e, hy⟩ => ⟨ds ++ [x], y, _, _, by subst e; rfl, by rw [List.length_append, h1]; rfl, fun z hz => ?_, hy.1, hy.2⟩
         rw [List.mem_append, List.mem_singleton] at hz
         rcases hz with hz | rfl
         · exact h2 z hz
         · exact hx
     · rintro Γ2 ⟨ds, f, s6, s7, rfl, h1, h2⟩
       exact bp_ret (semp_tup2 (C1 := fun x => ∃ q, x = .str (gw q)) (C2 := fun x => x = .tuple ds) (semp_word (q := 3) (x := way) (by decide) rfl ⟨false, rfl⟩ ⟨true, rfl⟩) (semp_pd (fun _ _ _ => sem_cb (sema_cons (sem_varL rfl) sema_nil) cvd_tupleL) rfl) fun x y ⟨q, e1⟩ e2 => by subst e1 e2; exact rjd_grp q h2 h1 (by omega)) fun r h => h
   · rintro Γ1 rfl
     refine bp_setI (A := fun x => 0 ≤ x ∧ x ≤ 3) (semp_call (sempa_cons (P := IntP fun x => x = (if 3 < u then 3 else u) + 1) (semp_add (A1 := fun x => x = if 3 < u then 3 else u) (semp_dI (fun _ _ _ => sem_cb (sema_cons (sem_var rfl) (sema_cons sem_int sema_nil)) cvd_min2) rfl) semp_int fun x y e1 e2 => by rw [e1, e2]) sempa_nil) fun rs ⟨r, rs', ⟨x, e1, hx⟩, e2, e⟩ => ⟨_, ⟨x, by rw [e, e1, e2], by rw [hx]; split <;> omega, by rw [hx]; split <;> omega, rfl⟩, IntP.mono fun y hy => ⟨hy.1, by have := hy.2; rw [hx] at this; split at this <;> omega⟩⟩) (by decide) fun cnt hc => ?_
     have hm : 0 < imax 1 cnt ∧ imax 1 cnt < 1073741824 := by unfold imax; split <;> omega
     refine bp_ret (semp_tup3 (C1 := fun x => ∃ q, x = .str (mw q)) (C2 := fun x => x = .int cnt) (C3 := RJD l) (semp_word (q := 3) (x := way) (by decide) rfl ⟨false, rfl⟩ ⟨true, rfl⟩) (semp_pd (fun _ _ _ => sem_var rfl) rfl) (hjob rfl (semp_fdiv (A3 := fun x => x = imax 1 cnt) (semp_varI (x := u) (by decide) rfl) (semp_dI (fun _ _ _ => sem_cb (sema_cons sem_int (sema_cons (sem_var rfl) sema_nil)) cvd_max2) rfl) (fun y e => by rw [e]; exact hm) fun x y e1 e2 => ?_)) fun x y z ⟨q, e1⟩ e2 h3 => ?_) fun r h => h
     · rw [e1, e2]
       exact ⟨Int.ediv_nonneg hu0 (by omega), Int.le_trans (Int.ediv_le_self _ hu0) hu6⟩
     · subst e1 e2
       exact rjd_mul q h3 hc.1 (by omega) (by omega)
end
end RP
end
section
set_option autoImplicit false
set_option maxHeartbeats 4000000
namespace RP
open PySem PySem.Spec PyProof.Rows L2
section
variable {P : Program} {w : World} {K : PySem.W.Frag} {mg : Str → Option Value} {base : Heap} {B : Hp} {Γ : List Sl} {E : XK} {te : TE}
def pr_great_job (L : Nat) : List Rk → (Rk → Prop) → Prop := fun rs post => ∃ (l : Nat) (c : Int), rs = [.d (.int ((l : Int) + 1)), .d (.int c)] ∧ l < L ∧ l ≤ 2 ∧ post = DatP (RJD l)
theorem w_law_great_job (T : Tx K mg) : ∀ L : Nat, Df P w K mg base CX0 (4 + L) "_law_great_job" p_law_great_job (spP K (pr_great_job L))
  | 0 => df_noneP T.f_law_great_job (fun _ _ _ _ _ _ us hl => match us, hl with | [_, _, _], _ => rfl) (fun rs r h => by obtain ⟨l, c, _, h, _⟩ := h; omega)
  | L + 1 => by
   have g__law_draw := w_law_draw (P := P) (w := w) (base := base) T
   have g__law_drawn_step := w_law_drawn_step (P := P) (w := w) (base := base) T
   have g__law_great_job := w_law_great_job T L
   refine df_pot (N := n_law_great_job) (k := 4 + L) T.f_law_great_job (fun _ _ _ _ _ _ us hl => match us, hl with | [_, _, _], _ => rfl) sc_law_great_job (by decide) (fun rs post h => by obtain ⟨l, c, rfl, _⟩ := h; rfl) ?_
   intro rs post h fa cdv A outer sh H E hr
   refine ⟨_, (pss_cons (ps_set (i := 3) sc_law_great_job.nd rfl (Or.inl rfl) (pe_df g__law_draw hr (by omega) pass0 rfl (pa_cons (pv 0) (pa_cons pe_int pa_nil))))
    (pss_cons (ps_if (PW.pt (pw_or (pt_cmpR op_lt (pv 1) pe_int (nomark _)) (pw_or1 (pt_cmpR op_lt (pv 3) pe_int (nomark _))))) (pss_one (ps_ret (pe_df g__law_drawn_step hr (by omega) pass0 rfl (pa_cons (pv 0) pa_nil)))) pss_nil)
    (pss_cons (ps_if (PW.pt (pw_or (pt_cmpR op_lt (pv 3) pe_int (nomark _)) (pw_or1 (pt_cmpR op_eq (pv 2) pe_int (nomark _))))) (pss_cons (ps_setLc (i := 4) (own := [("_law_turn", 6)]) (g := (gName 6)) (tt := tYes) rfl sc_law_great_job.nd rfl rfl (sw_true rfl rfl rfl (by decide +kernel)) (pi_range1 rfl T.b_range (pa_cons (pe_op op_add pe_int (pe_df g__law_draw hr (by omega) pass0 rfl (pa_cons (pv 0) (pa_cons pe_int pa_nil)))) pa_nil)) (blkOk_by (own := [("_law_turn", 6)]) (N := n_law_great_job) (sc := defScope s_law_great_job) (by decide +kernel)) (fun _ _ _ _ _ => (pg_name (i := 6) sc_law_great_job.nd rfl (Or.inl rfl))) (fun _ _ _ _ _ => pts_nil) (fun _ _ _ _ _ => (pe_df g__law_great_job hr (by omega) pass0 rfl (pa_cons (pv 0) (pa_cons (pe_op op_sub (pv 1) pe_int) (pa_cons (pv 2) pa_nil))))))
    (pss_one (ps_ret (pe_tup (pa_cons (pe_ix ix_list (pe_lst (pa_cons pe_str (pa_cons pe_str pa_nil))) (pe_op op_mod (pv 3) pe_int) (fun _ _ => rfl)) (pa_cons (pe_callTy call_tuple_of rfl T.b_tuple (by decide +kernel) (pa_cons (pv 4) pa_nil)) pa_nil)))))) pss_nil)
    (pss_cons (ps_set (i := 5) sc_law_great_job.nd rfl (Or.inl rfl) (pe_ix ix_list (pe_lst (pa_cons pe_int (pa_cons pe_int (pa_cons pe_int (pa_cons (pe_op op_add pe_int (pe_df g__law_draw hr (by omega) pass0 rfl (pa_cons (pv 0) (pa_cons (pe_op op_pow pe_int pe_int) pa_nil)))) pa_nil))))) (pe_df g__law_draw hr (by omega) pass0 rfl (pa_cons (pv 0) (pa_cons pe_int pa_nil))) (fun _ _ => rfl)))
    (pss_one (ps_ret (pe_tup (pa_cons (pe_ix ix_list (pe_lst (pa_cons pe_str (pa_cons pe_str pa_nil))) (pe_op op_mod (pv 3) pe_int) (fun _ _ => rfl)) (pa_cons (pv 5) (pa_cons (pe_df g__law_great_job hr (by omega) pass0 rfl (pa_cons (pv 0) (pa_cons (pe_op op_sub (pv 1) pe_int) (pa_cons (pe_op op_sub (pv 2) pe_int) pa_nil)))) pa_nil)))))))))), ?_⟩
   obtain ⟨l, c, rfl, hlL, hl2, rfl⟩ := h
   intro B
   refine bp_setI (semp_draw (m := 9) (by decide) (by decide) semp_int) (by decide) fun way hw => ?_
   refine bp_seq (nx1 := fun Γ1 => 1 ≤ l ∧ Γ1 = (slots n_law_great_job [potG, .d (.int ((l : Int) + 1)), .d (.int c)]).set 3 (.d (.int way))) (bp_if (sempt_or (sempt_cmp (semp_varI (x := (l : Int) + 1) (by decide) rfl) semp_int fun _ _ => rvd_lt) fun _ => sempt_cmp (semp_varI (x := way) (by decide) rfl) semp_int fun _ _ => rvd_lt) (fun _ => bp_ret semp_dstep (DatP.mono fun x h => RJD.le (Nat.zero_le l) (rjd_step h))) (fun h => bp_next ⟨?_, rfl⟩)) ?_
   · rcases h with ⟨_, h⟩ | ⟨⟨x, y, e1, e2, e3⟩, _⟩
     · cases h
     · subst e1 e2
       have := of_decide_eq_false e3.symm
       omega
   rintro Γ1 ⟨hl1, rfl⟩
   obtain ⟨l, rfl⟩ : ∃ m, l = m + 1 := ⟨l - 1, by omega⟩
   have hsub : ∀ {Γ : List Sl}, Γ[1]? = some (.d (.int (((l + 1 : Nat) : Int) + 1))) → SemP B 0 K Γ (tOp (rI0 fun i j => .int (i - j)) (tVar 1) (tC (.int 1))) (IntP fun x => x = (l : Int) + 1) := fun h => semp_sub (semp_varI (by decide) h) semp_int fun x y e1 e2 => by omega
   have hjob : ∀ {Γ : List Sl} {te : TE}, Γ[1]? = some (.d (.int (((l + 1 : Nat) : Int) + 1))) → SemP B 0 K Γ te (IntP fun _ => True) → SemP B 0 K Γ (tCall (spP K (pr_great_job L)) [] E (tCons (tVar 0) (tCons (tOp (rI0 fun i j => .int (i - j)) (tVar 1) (tC (.int 1))) (tCons te tNil)))) (DatP (RJD l)) := fun h ht =>
     semp_call (sempa_cons (hsub h) (sempa_cons ht sempa_nil)) fun rs ⟨r, rs', ⟨x, e1, hx⟩, ⟨r2, rs2, ⟨y, e2, hy⟩, e3, e4⟩, e⟩ => ⟨_, ⟨l, y, by rw [e, e1, e4, e2, e3, hx], by omega, by omega, rfl⟩, fun _ h => h⟩
   have anyI : ∀ {Γ : List Sl} {te : TE} {A : Int → Prop}, SemP B 0 K Γ te (IntP A) → SemP B 0 K Γ te (IntP fun _ => True) := fun h => h.mono (IntP.mono fun _ _ => trivial)
   refine bp_seq (nx1 := fun Γ1 => Γ1 = (slots n_law_great_job [potG, .d (.int (((l + 1 : Nat) : Int) + 1)), .d (.int c)]).set 3 (.d (.int way))) (bp_if (sempt_or (sempt_cmp (semp_varI (x := way) (by decide) rfl) semp_int fun _ _ => rvd_lt) fun _ => sempt_cmp (semp_varI (x := c) (by decide) rfl) semp_int fun _ _ => rvd_eqI) (fun _ => ?_) (fun _ => bp_next rfl)) ?_
   · refine bp_seq (nx1 := fun Γ1 => ∃ (ds : List PyData), Γ1 = [potG.par, .d (.int (((l + 1 : Nat) : Int) + 1)), .d (.int c), .d (.int way), .l ds, .un, .un] ∧ ds.length ≤ 4 ∧ (∀ x ∈ ds, RJD l x)) (bp_set (P := fun r => ∃ ds : List PyData, r = .l ds ∧ ds.length ≤ 4 ∧ ∀ x ∈ ds, RJD l x) (semp_lcRange (P1 := IntP fun x => 1 ≤ x ∧ x ≤ 4) (Pe := RJD l) (N := fun n => n ≤ 4) (semp_add semp_int (semp_draw (m := 4) (by decide) (by decide) semp_int) fun x y e h => by omega) (fun r ⟨x, e, hx⟩ => ⟨x.toNat, by rw [e, Int.toNat_of_nonneg (by omega)], by omega, by omega⟩) (by decide) (by decide) (fun m => hjob rfl (anyI (semp_varI (x := c) (by decide) rfl))) fun ds h1 h2 => ⟨ds, rfl, h1, h2⟩) (by decide) fun r ⟨ds, e, h1, h2⟩ => ⟨ds, by subst e; rfl, h1, h2⟩) ?_
     rintro Γ2 ⟨ds, rfl, h1, h2⟩
     exact bp_ret (semp_tup2 (C1 := fun x => ∃ q, x = .str (gw q)) (C2 := fun x => x = .tuple ds) (semp_word (q := 3) (x := way) (by decide) rfl ⟨false, rfl⟩ ⟨true, rfl⟩) (semp_pd (fun _ _ _ => sem_cb (sema_cons (sem_varL rfl) sema_nil) cvd_tupleL) rfl) fun x y ⟨q, e1⟩ e2 => by subst e1 e2; exact rjd_grp q h2 h1 (by omega)) fun r h => h
   · rintro Γ1 rfl
     have cn : ∀ {Γ : List Sl} {te : TE} {A : Int → Prop}, SemP B 0 K Γ te (IntP A) → (∀ x, A x → 0 ≤ x ∧ x ≤ 1000000000) → SemP B 0 K Γ te (DatP fun x => ∃ i : Int, x = .int i ∧ 0 ≤ i ∧ i ≤ 1000000000) := fun h ha => h.mono (IntP.dat fun i hi => ⟨i, rfl, ha i hi⟩)
     refine bp_setV (C := fun x => ∃ i : Int, x = .int i ∧ 0 ≤ i ∧ i ≤ 1000000000) (semp_ixL (n := 4) (semp_lstD (sempa_consD (cn semp_int fun x e => by omega) (sempa_consD (cn semp_int fun x e => by omega) (sempa_consD (cn semp_int fun x e => by omega) (sempa_consD (cn (semp_add (A := fun x => 1 ≤ x ∧ x ≤ 1000000000) semp_int (semp_draw (m := 10 ^ (9 : Int).toNat) (by decide) (by decide) (semp_pow ⟨by decide, by decide, by decide⟩)) fun x y e h => by
       have e9 : (10 : Int) ^ (9 : Int).toNat = 1000000000 := by decide +kernel
       omega) fun x h => by omega) sempa_nilD)))) (by decide)) (semp_draw (m := 4) (by decide) (by decide) semp_int)) (by decide) fun cd ⟨cnt, e, hc⟩ => ?_
     subst e
     refine bp_ret (semp_tup3 (C1 := fun x => ∃ q, x = .str (mw q)) (C2 := fun x => x = .int cnt) (C3 := RJD l) (semp_word (q := 3) (x := way) (by decide) rfl ⟨false, rfl⟩ ⟨true, rfl⟩) (semp_pd (fun _ _ _ => sem_var rfl) rfl) (hjob rfl (semp_sub (semp_varI (x := c) (by decide) rfl) semp_int fun _ _ _ _ => trivial)) fun x y z ⟨q, e1⟩ e2 h3 => ?_) fun r h => h
     subst e1 e2
     exact rjd_mul q h3 hc.1 hc.2 (by omega)
end
end RP
end
section
set_option autoImplicit false
set_option maxHeartbeats 4000000
namespace RP
open PySem PySem.Spec PyProof.Rows L2
/-- choices taken one after another -/
inductive Run (j0 : Job) : List (List Nat) → Job → Int → Prop where
  | nil : Run j0 [] j0 0
  | snoc {cs : List (List Nat)} {j : Job} {h v : Int} {c : List Nat} : Run j0 cs j h → c ∈ j.choices → j.Ch c v → Pa c j v → Run j0 (cs ++ [c]) (j.left c).tidy (h + v)
theorem Run.held {k : Nat} {j0 j : Job} {cs : List (List Nat)} {h : Int} (r : Run j0 cs j h) (hh : Held k j0) (hl : cs.length ≤ k) : Held (k - cs.length) j := by
  induction r with
  | nil => exact hh
  | @snoc cs j h v c r hc hv _ ih =>
    rw [List.length_append, List.length_singleton] at hl ⊢
    have := ih (by omega)
    have e : k - cs.length = k - (cs.length + 1) + 1 := by omega
    rw [e] at this
    exact this.step hv
theorem sh_adT (cs : List (List Nat)) : SeqAt.shaped (.tuple (cs.map adD)) = true := by
  have := sh_ads cs
  unfold SeqAt.shaped at this ⊢
  simp only [PyData.canLay0, PyData.depth] at this ⊢
  exact this
/-- a row that stands: (choices, what is left, what is held) -/
structure RowAt (K : PySem.W.Frag) (B H : Hp) (v : V) (cs : List (List Nat)) (j : Job) (h : Int) : Prop where
  ex : ∃ a L lv vs, v = .ref a ∧ H a = some (.tup [.ref L, lv, .int h]) ∧ B L = none ∧ H L = some (.lst vs) ∧ DtL K H vs (cs.map adD) ∧ Dt K H lv j.data
def spRow (K : PySem.W.Frag) : Sp := fun vs H Q _ => ∃ z jv j0, vs = [.ref z, jv] ∧ PotAt H z ∧ Dt K H jv j0.data ∧ Held 4 j0 ∧
  ∀ v H' cs j h, Run j0 cs j h → cs.length ≤ 4 → SZ z H H' → PotAt H' z → (∀ G, SZ z H' G → RowAt K H G v cs j h) → Q v H'
section
variable {K : PySem.W.Frag} {B H0 : Hp} {p : Nat} {Γ : List Sl} {t u : TS} {D : Ends} {z : Addr} {nx1 : List Sl → Prop} {te : TE} {C : PyData → Prop}
def RawP (p : Nat) (K : PySem.W.Frag) (H0 : Hp) (z : Addr) (D : Ends) (Γ : List Sl) (t : TS) : Prop := ∀ σ H, PS K H0 Γ p σ H z → t D σ H
theorem rawp_seq (b : Same B H0) (h : BP B p K Γ t (fun _ => False) nx1) (rest : ∀ Γ1, nx1 Γ1 → RawP p K H0 z D Γ1 u) : RawP p K H0 z D Γ (tSeq t u) := fun σ H s =>
  h H0 z { D with nx := u D } b ⟨fun _ _ _ h => h.elim, fun σ1 H1 Γ1 hn s1 => rest Γ1 hn σ1 H1 s1⟩ σ H s
theorem semp_ixT {ds : List PyData} {ta tb : TE} (ha : SemP B p K Γ ta (fun r => r = .d (.tuple ds))) (hb : SemP B p K Γ tb (InR ds.length)) (hall : ∀ x ∈ ds, C x) : SemP B p K Γ (tOp (rIxT K) ta tb) (DatP C) := semp_op ha hb fun r1 r2 e1 ⟨i, e2, h0, h1⟩ => by
  obtain ⟨x, hx, hm⟩ := atI_in h0 h1
  subst e1 e2
  exact ⟨.d x, ⟨x, rfl, hall x hm⟩, fun xs e => (by cases e), rvd_ixT hx⟩
end
section
variable {P : Program} {w : World} {K : PySem.W.Frag} {mg : Str → Option Value} {base : Heap} {B : Hp} {Γ : List Sl} {E : XK} {te : TE}
theorem w_law_drawn_row (T : Tx K mg) : Df P w K mg base CX0 33 "_law_drawn_row" p_law_drawn_row (spRow K) := by
  have g__law_draw := w_law_draw (P := P) (w := w) (base := base) T
  have g_choices := w_choices (P := P) (w := w) (base := base) T
  have g_step_value := w_step_value (P := P) (w := w) (base := base) T
  have g_do_step := w_do_step (P := P) (w := w) (base := base) T
  have hb : ∀ (kV doc pm : Value) (an : Option Addr) (cdv ct : Value) (us : List Value), us.length = p_law_drawn_row.length → bindArgs (PySem.W.fnOf "_law_drawn_row" "_law_drawn_row" (defArgs s_law_drawn_row) (defBody s_law_drawn_row) (defScope s_law_drawn_row) .none kV doc pm an cdv ct) ⟨us, []⟩ = pure (p_law_drawn_row.zip us) := fun _ _ _ _ _ _ us hl => match us, hl with | [_, _], _ => rfl
  obtain ⟨f, fd, F, hm⟩ := T.f_law_drawn_row
  refine ⟨f, fd, ?_, hm, F.kp, F.bindsN hb⟩
  refine F.ok sc_law_drawn_row (fun vs H Q E h => ?_) (fun cdv A outer sh H vs Q E hr h => ?_)
  · obtain ⟨z, jv, j0, rfl, _⟩ := h
    rfl
  obtain ⟨z, jv, j0, rfl, hz, hj, hh, q⟩ := h
  suffices hs : ∃ t, PSs (cxOf CX0 P w K mg base n_law_drawn_row "_law_drawn_row" (defScope s_law_drawn_row) f cdv A outer sh H E).nox (defBody s_law_drawn_row) t ∧ ∀ D : Ends, D.rt = Q → t D (L2.start n_law_drawn_row [.ref z, jv]) H by
    obtain ⟨t, d, ht⟩ := hs
    exact ⟨t, PSs.nox d, ht _ rfl⟩
  refine ⟨_, (pss_cons (ps_par3 (i := 2) (j := 3) (l := 4) rfl sc_law_drawn_row.nd rfl rfl rfl (by decide) (by decide) (by decide) rfl rfl rfl (pa_cons (pe_lst pa_nil) (pa_cons (pv 1) (pa_cons pe_int pa_nil))) (by rfl))
    (pss_cons (ps_for PassesOwn.never rfl (pi_range1 rfl T.b_range (pa_cons (pe_df g__law_draw hr (by omega) pass0 rfl (pa_cons (pv 0) (pa_cons pe_int pa_nil))) pa_nil)) (pg_name (i := 5) sc_law_drawn_row.nd rfl (Or.inl rfl)) (pss_cons (ps_set (i := 6) sc_law_drawn_row.nd rfl (Or.inl rfl) (pe_df g_choices hr (by omega) pass0 rfl (pa_cons (pv 3) pa_nil)))
    (pss_one (ps_if (pt_cmpR (op_neD hr.units) (pv 6) (pe_tup pa_nil) (nomark _)) (pss_cons (ps_set (i := 7) sc_law_drawn_row.nd rfl (Or.inl rfl) (pe_ix ix_tup (pv 6) (pe_df g__law_draw hr (by omega) pass0 rfl (pa_cons (pv 0) (pa_cons (pe_callB call_len_seq rfl T.b_len (by decide +kernel) (pa_cons (pv 6) pa_nil)) pa_nil))) (fun _ _ => rfl)))
    (pss_cons (ps_expr (pe_bm PySem.F.plainAttrs_list PySem.F.slot_list_append PySem.F.type_list_append mt_append (pv 2) (pa_cons (pv 7) pa_nil)))
    (pss_cons (ps_set (i := 4) sc_law_drawn_row.nd rfl (Or.inl rfl) (pe_op op_add (pv 4) (pe_df g_step_value hr (by omega) pass0 rfl (pa_cons (pv 3) (pa_cons (pv 7) pa_nil)))))
    (pss_one (ps_set (i := 3) sc_law_drawn_row.nd rfl (Or.inl rfl) (pe_df g_do_step hr (by omega) pass0 rfl (pa_cons (pv 3) (pa_cons (pv 7) pa_nil)))))))) pss_nil))))
    (pss_one (ps_ret (pe_tup (pa_cons (pv 2) (pa_cons (pv 3) (pa_cons (pv 4) pa_nil)))))))), ?_⟩
  rintro D rfl
  have st := ps_start (N := n_law_drawn_row) (K := K) (ws := [jv]) (rs := [.d j0.data]) ⟨⟨hj, fun e => by cases e⟩, trivial⟩ hz (by decide)
  refine (?_ : RawP 0 K (delH z H) z D (slots n_law_drawn_row [potG, .d j0.data]) _) _ H st
  refine rawp_seq (B := delH z H) (Same.refl _) (nx1 := fun Γ1 => ∃ (cs : List (List Nat)) (j : Job) (h : Int) (s5 s6 s7 : Sl), Γ1 = [potG.par, .d j0.data, .l (cs.map adD), .d j.data, .d (.int h), s5, s6, s7] ∧ Run j0 cs j h ∧ cs.length ≤ 0) (bp_par3 (semp_l fun _ _ _ => sem_lst (ds := []) sema_nil (by decide)) (semp_varD (by decide) rfl) (semp_d fun _ _ _ => sem_int) (by decide) (by decide) (by decide) ⟨[], j0, 0, _, _, _, rfl, .nil, Nat.le_refl _⟩) ?_
  intro Γ1 inv0
  refine rawp_seq (B := delH z H) (Same.refl _) (nx1 := fun Γ1 => ∃ (cs : List (List Nat)) (j : Job) (h : Int) (s5 s6 s7 : Sl), Γ1 = [potG.par, .d j0.data, .l (cs.map adD), .d j.data, .d (.int h), s5, s6, s7] ∧ Run j0 cs j h ∧ cs.length ≤ 4) (bp_forRange (N := fun n => n ≤ 4) (Inv := fun n k Γ1 => ∃ (cs : List (List Nat)) (j : Job) (h : Int) (s5 s6 s7 : Sl), Γ1 = [potG.par, .d j0.data, .l (cs.map adD), .d j.data, .d (.int h), s5, s6, s7] ∧ Run j0 cs j h ∧ cs.length ≤ k)
    (P := InR 5) (semp_draw (m := 5) (by decide) (by decide) semp_int) (fun r ⟨x, e, hx⟩ => ⟨x.toNat, by rw [e, Int.toNat_of_nonneg (by omega)], by omega, by omega⟩) (by decide) (fun n _ => inv0) (fun n k Γ2 hn hk inv => ?_) (fun n Γ2 hn ⟨cs, j, h, s5, s6, s7, e, r, hl⟩ => ⟨cs, j, h, s5, s6, s7, e, r, by omega⟩)) ?_
  · obtain ⟨cs, j, h, s5, s6, s7, rfl, r0, hl⟩ := inv
    have hd := r0.held hh (by omega)
    obtain ⟨m, em⟩ : ∃ m, 4 - cs.length = m + 1 := ⟨4 - cs.length - 1, by omega⟩
    rw [em] at hd
    refine bp_seq (nx1 := fun Γ1 => Γ1 = [potG.par, .d j0.data, .l (cs.map adD), .d j.data, .d (.int h), .d (.int (k : Int)), .d (.tuple (j.choices.map adD)), s7]) (bp_set (P := fun r => r = .d (.tuple (j.choices.map adD))) (semp_d fun _ _ _ => sem_call (sema_cons (sem_var rfl) sema_nil) ⟨j, rfl, rfl, hd.ok⟩) (by decide) fun r e => by subst e; rfl) ?_
    rintro Γ3 rfl
    refine bp_if (C := fun b => b = (!PyData.eqv (.tuple (j.choices.map adD)) (.tuple []))) (sempt_pure fun _ _ _ => semt_B (sem_op (sem_var rfl) (sem_tup (ds := []) sema_nil (by decide)) (rvd_neD (sh_adT _) (by decide +kernel)))) (fun hne => ?_) (fun _ => bp_next ⟨cs, j, h, _, _, _, rfl, r0, by omega⟩)
    have hlen : 0 < j.choices.length := by
      cases hc : j.choices with
      | nil =>
        rw [hc] at hne
        exact absurd hne (by decide +kernel)
      | cons c cs => exact Nat.succ_pos _
    refine bp_setV (C := fun x => ∃ c ∈ j.choices, x = adD c) (semp_ixT (ds := j.choices.map adD) (semp_varD (by decide) rfl) ((semp_draw (m := (j.choices.length : Int)) (by omega) (by have := hd.nodes; have := choices_len j; omega) (semp_dI (fun _ _ _ => sem_cb (sema_cons (sem_var rfl) sema_nil) (cvd_lenT' (by rw [List.length_map]))) rfl)).mono fun r ⟨x, e, hx⟩ => ⟨x, e, by rw [List.length_map]; exact hx⟩) fun x hx => by
      obtain ⟨c, hc, rfl⟩ := List.mem_map.mp hx
      exact ⟨c, hc, rfl⟩) (by decide) fun x ⟨c, hc, ex⟩ => ?_
    subst ex
    obtain ⟨v, hv, hp⟩ := choice_pa hc
    refine bp_seq (nx1 := fun Γ1 => Γ1 = [potG.par, .d j0.data, .l ((cs ++ [c]).map adD), .d j.data, .d (.int h), .d (.int (k : Int)), .d (.tuple (j.choices.map adD)), .d (adD c)]) (bp_append (i := 2) (xs := cs.map adD) rfl (by decide) (semp_varD (x := adD c) (by decide) rfl) (by rw [List.length_map]; omega) fun r e => ⟨adD c, e, by rw [List.map_append]; rfl⟩) ?_
    rintro Γ3 rfl
    refine bp_seq (nx1 := fun Γ1 => Γ1 = [potG.par, .d j0.data, .l ((cs ++ [c]).map adD), .d j.data, .d (.int (h + v)), .d (.int (k : Int)), .d (.tuple (j.choices.map adD)), .d (adD c)]) (bp_set (P := fun r => r = .d (.int (h + v))) (semp_d fun _ _ _ => sem_op (sem_var rfl) (sem_call (sema_cons (sem_var rfl) (sema_cons (sem_var rfl) sema_nil)) ⟨j, c, v, rfl, rfl, hp, hd.ok⟩) rvd_add) (by decide) fun r e => by subst e; rfl) ?_
    rintro Γ3 rfl
    refine bp_set (P := fun r => r = .d (j.left c).tidy.data) (semp_d fun _ _ _ => sem_call (sema_cons (sem_var rfl) (sema_cons (sem_var rfl) sema_nil)) ⟨m, j, c, rfl, rfl, hc, hd⟩) (by decide) fun r e => ⟨cs ++ [c], (j.left c).tidy, h + v, _, _, _, by subst e; rfl, .snoc r0 hc hv hp, by rw [List.length_append, List.length_singleton]; omega⟩
  · rintro Γ2 ⟨cs, j, h, s5, s6, s7, rfl, r, hl⟩ σ H1 s
    obtain ⟨a, b, c, rp⟩ := s.ex
    obtain ⟨v2, hv2, L, vs, e2, hL, hdl, hL0⟩ := rp.at_ 2 (.l (cs.map adD)) rfl (by intro z; cases z)
    obtain ⟨v3, hv3, hd3⟩ := rp.at_ 3 (.d j.data) rfl (by intro z; cases z)
    obtain ⟨v4, hv4, hd4⟩ := rp.at_ 4 (.d (.int h)) rfl (by intro z; cases z)
    have e4 := Dt.isInt hd4
    subst e2 e4
    have hLz : L ≠ z := fun e => by
      refine rp.dis 0 2 _ _ (by decide) (show ([potG.par, _, _, _, _, _, _, _].set 0 (.l (potL a b c)))[0]? = _ from rfl) (show _ = some (.l (cs.map adD)) from rfl) rfl rfl ?_
      rw [s.hz, hv2, e]
    refine ⟨_, hv2, _, hv3, _, hv4, ?_⟩
    refine ⟨Nat.le_of_lt (small1000 (by simp)), fun ad had => ?_⟩
    have sz1 := sz_back hz s.base s.at.1
    have sz2 := SZ.of s.at.1 (same_new (o := .tup [.ref L, v3, .int h]) had)
    have pz2 := s.at.1.mono (same_new (o := .tup [.ref L, v3, .int h]) had)
    have hadz : ad ≠ z := fun e => by
      obtain ⟨_, _, _, hz1⟩ := s.at.1
      rw [e, hz1] at had
      cases had
    refine q _ _ cs j h r hl (sz1.trans sz2) pz2 fun G g => ⟨ad, L, v3, vs, rfl, g.keep _ _ hadz upd_same, (by rwa [delH_ne hLz] at hL0), g.keep _ _ hLz (same_new had _ _ hL), DtL.keep (TK.trans (TK.of (same_new had)) g.tk) hdl, Dt.keep (TK.trans (TK.of (same_new had)) g.tk) hd3⟩
end
end RP
end
section
set_option autoImplicit false
set_option maxHeartbeats 4000000
namespace RP
open PySem PySem.Spec PyProof.Rows L2
/-- a name by the places of its letters -/
def nmS (cs : List Nat) : Str := ⟨(cs.map (· + 97)).toArray⟩
def rot1 : List Nat → List Nat
  | [] => []
  | c :: t => (c + 1) % 26 :: t
def rotN : Nat → List Nat → List Nat
  | 0, cs => cs
  | n + 1, cs => rotN n (rot1 cs)
def Low (cs : List Nat) : Prop := ∀ c ∈ cs, c < 26
theorem nmS_inj : ∀ {a b : List Nat}, nmS a = nmS b → a = b := by
  intro a b h
  have h2 : (a.map (· + 97)).toArray = (b.map (· + 97)).toArray := congrArg Str.cps h
  have h3 : a.map (· + 97) = b.map (· + 97) := by simpa using congrArg Array.toList h2
  exact (List.map_inj_right (fun x y e => by omega)).mp h3
theorem nmS_len (a : List Nat) : (nmS a).length = a.length := by
  show (a.map (· + 97)).toArray.size = _
  simp
theorem nmS_app (a b : List Nat) : nmS a ++ nmS b = nmS (a ++ b) := by
  show (⟨(nmS a).cps ++ (nmS b).cps⟩ : Str) = _
  unfold nmS
  simp
theorem index_letter : ∀ c, c < 26 → PySem.Txt.index0 "abcdefghijklmnopqrstuvwxyz" (nmS [c]) = some c := by decide +kernel
theorem at_letter : ∀ c : Nat, c < 26 → atI (("abcdefghijklmnopqrstuvwxyz" : Str).cps.toList) (c : Int) = some (c + 97) := by decide +kernel
theorem rotN_head (m c : Nat) (t : List Nat) (hc : c < 26) : rotN m (c :: t) = (c + m) % 26 :: t := by
  induction m generalizing c with
  | zero => rw [rotN, Nat.add_zero, Nat.mod_eq_of_lt hc]
  | succ m ih =>
    rw [rotN, rot1, ih _ (Nat.mod_lt _ (by decide))]
    congr 1
    omega
theorem rotN_low {m : Nat} {cs : List Nat} (h : Low cs) : Low (rotN m cs) := by
  cases cs with
  | nil =>
    have : ∀ m, rotN m [] = [] := by
      intro m
      induction m with
      | zero => rfl
      | succ m ih => rw [rotN, rot1, ih]
    rw [this]
    exact h
  | cons c t =>
    rw [rotN_head m c t (h c List.mem_cons_self)]
    intro x hx
    rcases List.mem_cons.mp hx with rfl | hx
    · exact Nat.mod_lt _ (by decide)
    · exact h x (List.mem_cons_of_mem _ hx)
/-- not all of many turns of a name are among fewer names -/
theorem rot_out {found : List (List Nat)} {cs : List Nat} {m : Nat} (h0 : cs ≠ []) (hl : Low cs) (hm : m ≤ 26) (hf : found.length < m) (hall : ∀ i, i < m → rotN i cs ∈ found) : False := by
  obtain ⟨c, t, rfl⟩ : ∃ c t, cs = c :: t := by
    cases cs with
    | nil => exact absurd rfl h0
    | cons c t => exact ⟨c, t, rfl⟩
  have hc := hl c List.mem_cons_self
  have nd : ((List.range m).map fun i => rotN i (c :: t)).Nodup := by
    show List.Pairwise (· ≠ ·) _
    rw [List.pairwise_map]
    refine List.Pairwise.imp_of_mem (fun {a b} ha hb hab e => hab ?_) List.nodup_range
    rw [rotN_head a c t hc, rotN_head b c t hc] at e
    have ha := List.mem_range.mp ha
    have hb := List.mem_range.mp hb
    have e2 := (List.cons.inj e).1
    omega
  have := List.Nodup.length_le_of_subset nd (l₂ := found) fun x hx => by
    obtain ⟨i, hi, rfl⟩ := List.mem_map.mp hx
    exact hall i (List.mem_range.mp hi)
  rw [List.length_map, List.length_range] at this
  omega
end RP
end
section
set_option autoImplicit false
set_option maxHeartbeats 4000000
namespace RP
open PySem PySem.Spec PyProof.Rows L2
def nmD (cs : List Nat) : PyData := .str (nmS cs)
/-- the names that are drawn -/
structure NmsOk (ns : List (List Nat)) : Prop where
  nd : ns.Nodup
  low : ∀ cs ∈ ns, Low cs
  len : ∀ cs ∈ ns, 1 ≤ cs.length ∧ cs.length ≤ 8
def pr_drawn_names : List Rk → (Rk → Prop) → Prop := fun rs post => ∃ m : Nat, rs = [.d (.int (m : Int))] ∧ m ≤ 4 ∧ post = fun r => ∃ ns : List (List Nat), r = .l (ns.map nmD) ∧ ns.length = m ∧ NmsOk ns
section
variable {K : PySem.W.Frag} {Γ : List Sl} {te ta tb : TE}
theorem rvd_catS {a b : Str} (h : a.length + b.length ≤ 1000) : RvD K (fun x y H Q => ∃ i j, x = .str i ∧ y = .str j ∧ i.length + j.length ≤ sizeLine ∧ Q (.str (i ++ j)) H) (.d (.str a)) (.d (.str b)) (.d (.str (a ++ b))) := fun H v w Q x y q => by
  have e1 := Dt.isStr x
  have e2 := Dt.isStr y
  subst e1 e2
  exact ⟨a, b, rfl, rfl, Nat.le_of_lt (small1000 h), q _ H (Same.refl H) (.str _)⟩
theorem rvd_ixS {a : Str} {i : Int} {c : Nat} (hl : a.length ≤ 1000) (h : atI a.cps.toList i = some c) : RvD K rIxS (.d (.str a)) (.d (.int i)) (.d (.str ⟨#[c]⟩)) := fun H v w Q x y q => by
  have e1 := Dt.isStr x
  have e2 := Dt.isInt y
  subst e1 e2
  exact ⟨a, i, c, rfl, rfl, Nat.le_of_lt (small1000 hl), h, q _ H (Same.refl H) (.str _)⟩
theorem rotN_succ (n : Nat) (cs : List Nat) : rotN (n + 1) cs = rot1 (rotN n cs) := by
  induction n generalizing cs with
  | zero => rfl
  | succ n ih =>
    show rotN (n + 1) (rot1 cs) = _
    rw [ih (rot1 cs)]
    rfl
theorem nmS_list (cs : List Nat) : (nmS cs).cps.toList = cs.map (· + 97) := by
  unfold nmS
  simp
theorem nmS_take (cs : List Nat) (n : Nat) : cutS (nmS cs) none (some (n : Int)) = nmS (cs.take n) := by
  unfold cutS
  rw [HT.sIx_nat, HT.sIx_none, List.drop_zero, Nat.sub_zero, nmS_list, nmS_len, ← List.map_take]
  show nmS _ = _
  congr 1
  exact List.take_eq_take_min.symm
theorem nmS_tail (c : Nat) (cs : List Nat) : cutS (nmS (c :: cs)) (some 1) none = nmS cs := by
  unfold cutS
  rw [show HT.sIx (nmS (c :: cs)).length 0 (some 1) = min 1 (nmS (c :: cs)).length from HT.sIx_nat _ 0 1, HT.sIx_none, nmS_len, nmS_list, List.length_cons]
  rw [show min 1 (cs.length + 1) = 1 by omega]
  show (⟨(List.take (cs.length + 1 - 1) (cs.map (· + 97))).toArray⟩ : Str) = _
  rw [Nat.add_sub_cancel, List.take_of_length_le (Nat.le_of_eq (List.length_map _))]
  rfl
theorem sem_slS {z y : Str} {tl th : TO} {lo hi : Option Int} (h : Sem K Γ te (.d (.str z))) (hl : SemO K Γ tl lo) (hh : SemO K Γ th hi) (hz : z.length ≤ 1000) (e : cutS z lo hi = y) : Sem K Γ (tSl rSlS te tl th) (.d (.str y)) := fun H0 σ H Q rp q =>
  h H0 σ H _ rp fun v H1 e1 a1 => hl H0 σ H1 _ (rp.mono e1) fun H2 e2 => hh H0 σ H2 _ (rp.mono (e1.trans e2)) fun H3 e3 => by
    have ev := Dt.isStr a1
    subst ev e
    exact ⟨z, rfl, Nat.le_of_lt (small1000 hz), q _ H3 ((e1.trans e2).trans e3) (.str _)⟩
theorem sem_sindex {a b : Str} {k : Nat} (h : Sem K Γ ta (.d (.str a))) (h2 : Sem K Γ tb (.d (.str b))) (e : PySem.Txt.index0 a b = some k) : Sem K Γ (tBMS K "str" (rIndexX fun _ _ _ _ => False) ta (tCons tb tNil)) (.d (.int (k : Int))) := fun H0 σ H Q rp q =>
  h H0 σ H _ rp fun v H1 e1 a1 => by
    have ev := Dt.isStr a1
    subst ev
    refine ⟨rfl, h2 H0 σ H1 _ (rp.mono e1) fun w H2 e2 a2 => ?_⟩
    have ew := Dt.isStr a2
    subst ew
    refine ⟨a, b, rfl, rfl, fun j hj => ?_, fun hn => by rw [e] at hn; cases hn⟩
    rw [e] at hj
    cases hj
    exact q _ H2 (e1.trans e2) (.int _)
end
theorem strok {cs : List Nat} (h : Low cs) : PyData.strOk (nmS cs) = true := by
  unfold PyData.strOk nmS
  rw [← Array.all_toList, List.all_eq_true]
  intro x hx
  obtain ⟨c, hc, rfl⟩ := List.mem_map.mp (by simpa using hx)
  have := h c hc
  exact decide_eq_true (by omega)
theorem sh_nms (ns : List (List Nat)) (hok : ∀ cs ∈ ns, PyData.strOk (nmS cs) = true) : SeqAt.shaped (.list (ns.map nmD)) = true := by
  have h1 : PyData.canLayAll0 (ns.map nmD) = true := by
    induction ns with
    | nil => simp [PyData.canLayAll0]
    | cons c cs ih => simp only [List.map_cons, PyData.canLayAll0, ih fun x hx => hok x (List.mem_cons_of_mem _ hx), nmD, PyData.canLay0, hok c List.mem_cons_self, Bool.and_self]
  have h2 : PyData.depthAll (ns.map nmD) ≤ 1 := by
    clear h1 hok
    induction ns with
    | nil => simp [PyData.depthAll]
    | cons c cs ih =>
      simp only [List.map_cons, PyData.depthAll, nmD, PyData.depth] at ih ⊢
      omega
  unfold SeqAt.shaped
  simp only [PyData.canLay0, PyData.depth, h1, Bool.true_and]
  exact decide_eq_true (by omega)
theorem in_nms {K : PySem.W.Frag} {ns : List (List Nat)} {cs : List Nat} (h : SeqAt.shaped (.list (ns.map nmD)) = true) (h2 : PyData.strOk (nmS cs) = true) : RvD K (rInD K) (.d (nmD cs)) (.s (ns.map nmD)) (.d (.bool (decide (cs ∈ ns)))) := by
  have hs : SeqAt.shaped (nmD cs) = true := by
    unfold SeqAt.shaped nmD
    simp only [PyData.canLay0, PyData.depth, h2, Bool.true_and]
    exact decide_eq_true (by omega)
  have := rvd_inD (K := K) hs h
  have e : ((ns.map nmD).any fun z => PyData.eqv z (nmD cs)) = decide (cs ∈ ns) := by
    rw [Bool.eq_iff_iff, List.any_map, List.any_eq_true, decide_eq_true_iff]
    constructor
    · rintro ⟨x, hx, hq⟩
      have hq2 : (nmS x == nmS cs) = true := by simpa [nmD, PyData.eqv] using hq
      rw [← nmS_inj (eq_of_beq hq2)]
      exact hx
    · intro hx
      refine ⟨cs, hx, ?_⟩
      simp [nmD, PyData.eqv]
  rw [e] at this
  exact this
theorem atI_lastA {α : Type} {x : α} {ds : List α} : atI (ds ++ [x]) (-1) = some x := by
  unfold atI ixN
  rw [List.length_append, List.length_singleton, if_neg (by omega), if_pos (by omega)]
  show (ds ++ [x])[((-1 : Int) + ((ds.length + 1 : Nat) : Int)).toNat]? = some x
  rw [show ((-1 : Int) + ((ds.length + 1 : Nat) : Int)).toNat = ds.length by omega]
  simp
section
variable {P : Program} {w : World} {K : PySem.W.Frag} {mg : Str → Option Value} {base : Heap} {B : Hp} {Γ : List Sl} {E : XK} {te : TE}
theorem takes_none : ∀ (X : Cx), Takes X fun _ _ _ _ => False := fun X u s' ⟨a, B, sI, pins, σ, H, cls, d, e, I, nb, up, sky, na, os, ag, w⟩ => w.elim
theorem w_law_drawn_names (T : Tx K mg) : Df P w K mg base CX0 2 "_law_drawn_names" p_law_drawn_names (spP K pr_drawn_names) := by
  have g__law_draw := w_law_draw (P := P) (w := w) (base := base) T
  have tk := takes_none
  refine df_pot (N := n_law_drawn_names) (k := 1) T.f_law_drawn_names (fun _ _ _ _ _ _ us hl => match us, hl with | [_, _], _ => rfl) sc_law_drawn_names (by decide) (fun rs post h => by obtain ⟨m, rfl, _⟩ := h; rfl) ?_
  intro rs post h fa cdv A outer sh H E hr
  refine ⟨_, (pss_cons (ps_set (i := 2) sc_law_drawn_names.nd rfl (Or.inl rfl) pe_str)
    (pss_cons (ps_set (i := 3) sc_law_drawn_names.nd rfl (Or.inl rfl) (pe_lst pa_nil))
    (pss_cons (ps_for PassesOwn.never rfl (pi_range1 rfl T.b_range (pa_cons (pv 1) pa_nil)) (pg_name (i := 4) sc_law_drawn_names.nd rfl (Or.inl rfl)) (pss_cons (ps_set (i := 5) sc_law_drawn_names.nd rfl (Or.inl rfl) pe_str)
    (pss_cons (ps_for PassesOwn.never rfl (pi_range1 rfl T.b_range (pa_cons (pe_ix ix_list (pe_lst (pa_cons pe_int (pa_cons pe_int (pa_cons pe_int (pa_cons pe_int (pa_cons pe_int pa_nil)))))) (pe_df g__law_draw hr (by omega) pass0 rfl (pa_cons (pv 0) (pa_cons pe_int pa_nil))) (fun _ _ => rfl)) pa_nil)) (pg_name (i := 6) sc_law_drawn_names.nd rfl (Or.inl rfl)) (pss_one (ps_set (i := 5) sc_law_drawn_names.nd rfl (Or.inl rfl) (pe_op op_add_str (pv 5) (pe_ix ix_str (pv 2) (pe_df g__law_draw hr (by omega) pass0 rfl (pa_cons (pv 0) (pa_cons pe_int pa_nil))) (fun _ _ => rfl))))))
    (pss_cons (ps_if (PW.pt (pw_and (pt_cmpR (op_neD hr.units) (pv 3) (pe_lst pa_nil) (nomark _)) (pw_and1 (pt_cmpR op_eq (pe_df g__law_draw hr (by omega) pass0 rfl (pa_cons (pv 0) (pa_cons pe_int pa_nil))) pe_int (nomark _))))) (pss_one (ps_set (i := 5) sc_law_drawn_names.nd rfl (Or.inl rfl) (pe_slice sl_str (pe_op op_add_str (pe_ix ix_list (pv 3) (pe_un un_neg pe_int) (fun _ _ => rfl)) pe_str) po_none (po_some pe_int)))) pss_nil)
    (pss_cons (ps_for PassesOwn.never rfl (pi_range1 rfl T.b_range (pa_cons (pv 1) pa_nil)) (pg_name (i := 7) sc_law_drawn_names.nd rfl (Or.inl rfl)) (pss_one (ps_if (pt_cmpR (op_inD (room65 hr)) (pv 5) (pv 3) (by rfl)) (pss_one (ps_set (i := 5) sc_law_drawn_names.nd rfl (Or.inl rfl) (pe_op op_add_str (pe_ix ix_str (pv 2) (pe_op op_mod (pe_op op_add (pe_bmS PySem.F.plainAttrs_str PySem.F.slot_str_index PySem.F.type_str_index (mt_indexX rfl (tk _)) (pv 2) (pa_cons (pe_ix ix_str (pv 5) pe_int (fun _ _ => rfl)) pa_nil)) pe_int) pe_int) (fun _ _ => rfl)) (pe_slice sl_str (pv 5) (po_some pe_int) po_none)))) pss_nil)))
    (pss_one (ps_expr (pe_bm PySem.F.plainAttrs_list PySem.F.slot_list_append PySem.F.type_list_append mt_append (pv 3) (pa_cons (pv 5) pa_nil)))))))))
    (pss_one (ps_ret (pv 3)))))), ?_⟩
  obtain ⟨m, rfl, hm4, rfl⟩ := h
  intro B
  have le26 : ("abcdefghijklmnopqrstuvwxyz" : Str).length ≤ 1000 := by decide +kernel
  have letter : ∀ {Γ : List Sl} {te : TE}, Γ[2]? = some (.d (.str "abcdefghijklmnopqrstuvwxyz")) → SemP B 0 K Γ te (InR 26) → SemP B 0 K Γ (tOp rIxS (tVar 2) te) (DatP fun x => ∃ c : Nat, c < 26 ∧ x = nmD [c]) := fun h ht =>
    semp_op (P1 := fun r => r = .d (.str "abcdefghijklmnopqrstuvwxyz")) (semp_varD (by decide) h) ht fun r1 r2 e1 ⟨i, e2, h0, h1⟩ => by
      obtain ⟨c, rfl⟩ := Int.eq_ofNat_of_zero_le h0
      subst e1 e2
      exact ⟨.d (nmD [c]), ⟨_, rfl, c, by omega, rfl⟩, fun xs e => (by cases e), rvd_ixS le26 (at_letter c (by omega))⟩
  let G : List (List Nat) → Sl → Sl → Sl → Sl → List Sl := fun ns a b c d => [potG.par, .d (.int (m : Int)), .d (.str "abcdefghijklmnopqrstuvwxyz"), .l (ns.map nmD), a, b, c, d]
  refine bp_setV (C := fun x => x = .str "abcdefghijklmnopqrstuvwxyz") (semp_pd (fun _ _ _ => sem_str) rfl) (by decide) fun x e => ?_
  subst e
  refine bp_setL (n := 0) (C := fun _ => True) (semp_lstD sempa_nilD (by decide)) (by decide) fun ds hds _ => ?_
  have ed : ds = [] := List.length_eq_zero_iff.mp hds
  subst ed
  refine bp_seq (nx1 := fun Γ1 => ∃ ns a b c d, Γ1 = G ns a b c d ∧ ns.length = m ∧ NmsOk ns) (bp_forRange (N := fun n => n = m) (Inv := fun n k Γ1 => ∃ ns a b c d, Γ1 = G ns a b c d ∧ ns.length = k ∧ NmsOk ns) (P := IntP fun x => x = m) (semp_varI (x := (m : Int)) (by decide) rfl) (fun r ⟨x, e, hx⟩ => ⟨m, by rw [e, hx], by omega, rfl⟩) (by decide) (fun n _ => ⟨[], _, _, _, _, rfl, rfl, List.nodup_nil, (fun _ h => by cases h), (fun _ h => by cases h)⟩) (fun n k Γ2 hn hk inv => ?_) (fun n Γ2 hn ⟨ns, a, b, c, d, e, h1, h2⟩ => ⟨ns, a, b, c, d, e, by omega, h2⟩)) ?_
  · subst hn
    obtain ⟨ns, s4, s5, s6, s7, rfl, hlen, ok⟩ := inv
    refine bp_seq (nx1 := fun Γ1 => ∃ a d e, Γ1 = G ns a (.d (nmD [])) d e) (bp_set (P := fun r => r = .d (nmD [])) (semp_d fun _ _ _ => sem_str) (by decide) fun r e => ⟨_, _, _, by subst e; rfl⟩) ?_
    rintro Γ3 ⟨s4, s6, s7, rfl⟩
    refine bp_seq (nx1 := fun Γ1 => ∃ cs a d e, Γ1 = G ns a (.d (nmD cs)) d e ∧ Low cs ∧ 1 ≤ cs.length ∧ cs.length ≤ 8) (bp_forRange (N := fun n => 1 ≤ n ∧ n ≤ 8) (Inv := fun n j Γ1 => ∃ cs a d e, Γ1 = G ns a (.d (nmD cs)) d e ∧ Low cs ∧ cs.length = j) (P := DatP fun x => ∃ i : Int, x = .int i ∧ 1 ≤ i ∧ i ≤ 8) ?_ (fun r ⟨x, e, i, e2, hi⟩ => ⟨i.toNat, by rw [e, e2, Int.toNat_of_nonneg (by omega)], by omega, by omega, by omega⟩) (by decide) (fun n _ => ⟨[], _, _, _, rfl, (fun _ h => by cases h), rfl⟩) (fun n j Γ4 hn hj inv => ?_) (fun n Γ4 hn ⟨cs, a, d, e, e1, e2, e3⟩ => ⟨cs, a, d, e, e1, e2, by omega, by omega⟩)) ?_
    · have num : ∀ {Γ : List Sl} (i : Int), (1 ≤ i ∧ i ≤ 8) → SemP B 0 K Γ (tC (.int i)) (DatP fun x => ∃ i : Int, x = .int i ∧ 1 ≤ i ∧ i ≤ 8) := fun i h => semp_pd (fun _ _ _ => sem_int) ⟨i, rfl, h⟩
      exact semp_ixL (semp_lstD (n := 5) (sempa_consD (num 1 (by decide)) (sempa_consD (num 1 (by decide)) (sempa_consD (num 2 (by decide)) (sempa_consD (num 3 (by decide)) (sempa_consD (num 8 (by decide)) sempa_nilD))))) (by decide)) (semp_draw (m := 5) (by decide) (by decide) semp_int)
    · obtain ⟨cs, a, d, e, rfl, hlow, hl⟩ := inv
      refine bp_set (P := DatP fun x => ∃ c : Nat, c < 26 ∧ x = nmD (cs ++ [c])) (semp_op (P1 := fun r => r = .d (nmD cs)) (semp_varD (by decide) rfl) (letter rfl (semp_draw (m := 26) (by decide) (by decide) semp_int)) fun r1 r2 e1 ⟨x, e2, c, hc, e3⟩ => ?_) (by decide) fun r ⟨x, e1, c, hc, e2⟩ => ⟨cs ++ [c], _, _, _, by subst e1 e2; rfl, fun y hy => ?_, by rw [List.length_append, hl]; rfl⟩
      · subst e1 e2 e3
        refine ⟨.d (nmD (cs ++ [c])), ⟨_, rfl, c, hc, rfl⟩, fun xs e => (by cases e), ?_⟩
        have := rvd_catS (K := K) (a := nmS cs) (b := nmS [c]) (by rw [nmS_len, nmS_len, hl, List.length_singleton]; omega)
        rw [nmS_app] at this
        exact this
      · rw [List.mem_append, List.mem_singleton] at hy
        rcases hy with hy | rfl
        · exact hlow y hy
        · exact hc
    · rintro Γ4 ⟨cs, s4, s6, s7, rfl, hlow, hl1, hl8⟩
      refine bp_seq (nx1 := fun Γ1 => ∃ cs a d e, Γ1 = G ns a (.d (nmD cs)) d e ∧ Low cs ∧ 1 ≤ cs.length ∧ cs.length ≤ 8) (bp_if (sempt_and (C := fun b => b = !(ns.map nmD).isEmpty) (sempt_pure fun _ _ _ => semt_B (sem_op (sem_varL rfl) (sem_lst (ds := []) sema_nil (by decide)) (rvd_neLn (sh_nms ns fun x hx => strok (ok.low x hx))))) fun _ => sempt_cmp (semp_draw (m := 4) (by decide) (by decide) semp_int) semp_int fun _ _ => rvd_eqI) (fun hb => ?_) (fun _ => bp_next ⟨cs, _, _, _, rfl, hlow, hl1, hl8⟩)) ?_
      · have hne : ns ≠ [] := by
          rintro rfl
          rcases hb with ⟨_, h⟩ | ⟨h, _⟩
          · cases h
          · exact absurd h (by decide)
        obtain ⟨ini, last, rfl⟩ : ∃ ini last, ns = ini ++ [last] := ⟨ns.dropLast, ns.getLast hne, (List.dropLast_concat_getLast hne).symm⟩
        have hlast := ok.len last (by simp)
        have hlow2 := ok.low last (by simp)
        have hat : atI ((ini ++ [last]).map nmD) (-1) = some (nmD last) := by
          rw [List.map_append]
          exact atI_lastA
        refine bp_set (P := fun r => r = .d (nmD ((last ++ [0]).take 8))) (semp_d fun _ _ _ => sem_slS (z := nmS (last ++ [0])) (sem_op (sem_op (r2 := .d (.int (-1))) (r := .d (nmD last)) (sem_varL rfl) (sem_neg sem_int) (rvd_ixL hat)) sem_str (by
          have := rvd_catS (K := K) (a := nmS last) (b := nmS [0]) (by rw [nmS_len, nmS_len, List.length_singleton]; omega)
          rw [nmS_app] at this
          exact this)) semo_none (semo_some sem_int) (by rw [nmS_len, List.length_append, List.length_singleton]; omega) (nmS_take _ 8)) (by decide) fun r e => ⟨(last ++ [0]).take 8, _, _, _, by subst e; rfl, fun y hy => ?_, by rw [List.length_take, List.length_append, List.length_singleton]; omega, by rw [List.length_take]; omega⟩
        have := List.mem_of_mem_take hy
        rw [List.mem_append, List.mem_singleton] at this
        rcases this with h | rfl
        · exact hlow2 y h
        · decide
      rintro Γ4 ⟨cs0, s4, s6, s7, rfl, hlow, hl1, hl8⟩
      have lsh := sh_nms ns fun x hx => strok (ok.low x hx)
      refine bp_seq (nx1 := fun Γ1 => ∃ cs a d e, Γ1 = G ns a (.d (nmD cs)) d e ∧ Low cs ∧ 1 ≤ cs.length ∧ cs.length ≤ 8 ∧ cs ∉ ns) (bp_forRange (N := fun n2 => n2 = n) (Inv := fun n2 j Γ1 => ∃ cs a d e, Γ1 = G ns a (.d (nmD cs)) d e ∧ Low cs ∧ 1 ≤ cs.length ∧ cs.length ≤ 8 ∧ (cs ∉ ns ∨ (cs = rotN j cs0 ∧ ∀ i, i < j → rotN i cs0 ∈ ns))) (P := IntP fun x => x = n) (semp_varI (x := (n : Int)) (by decide) rfl) (fun r ⟨x, e, hx⟩ => ⟨n, by rw [e, hx], by omega, rfl⟩) (by decide) (fun _ _ => ⟨cs0, _, _, _, rfl, hlow, hl1, hl8, .inr ⟨rfl, fun i h => absurd h (by omega)⟩⟩) (fun n' j Γ5 hn' hj inv => ?_) (fun n' Γ5 hn' ⟨cs, a, d, e, e1, e2, e3, e4, e5⟩ => ⟨cs, a, d, e, e1, e2, e3, e4, ?_⟩)) ?_
      · obtain ⟨cs, a, d, e, rfl, h2, h3, h4, h5⟩ := inv
        obtain ⟨c, t, rfl⟩ : ∃ c t, cs = c :: t := by
          cases cs with
          | nil => simp at h3
          | cons c t => exact ⟨c, t, rfl⟩
        have hc := h2 c List.mem_cons_self
        refine bp_if (C := fun b => b = decide ((c :: t) ∈ ns)) (sempt_pure fun _ _ _ => semt_B (sem_op (sem_var rfl) (sem_varL rfl) (in_nms lsh (strok h2)))) (fun hb => ?_) (fun hb => bp_next ⟨_, _, _, _, rfl, h2, h3, h4, .inl (of_decide_eq_false hb.symm)⟩)
        have hin := of_decide_eq_true hb.symm
        have h6 := h5.resolve_left fun h => h hin
        have hix : PySem.Txt.index0 "abcdefghijklmnopqrstuvwxyz" (nmS [c]) = some c := index_letter c hc
        refine bp_set (P := fun r => r = .d (nmD (rot1 (c :: t)))) (semp_d fun _ _ _ => sem_op (r1 := .d (nmD [(c + 1) % 26])) (r2 := .d (nmD t)) (sem_op (r1 := .d (.str "abcdefghijklmnopqrstuvwxyz")) (sem_var rfl) (sem_op (r1 := .d (.int ((c : Int) + 1))) (sem_op (sem_sindex (sem_var rfl) (sem_op (r := .d (nmD [c])) (sem_var rfl) sem_int (rvd_ixS (by rw [nmS_len]; omega) (by rw [nmS_list]; exact atI_zero))) hix) sem_int rvd_add) sem_int (rvd_I (by decide) fun _ => .int _)) (rvd_ixS le26 (by
            have := at_letter ((c + 1) % 26) (Nat.mod_lt _ (by decide))
            rw [show (((c + 1) % 26 : Nat) : Int) = ((c : Int) + 1) % 26 by omega] at this
            exact this))) (sem_slS (sem_var rfl) (semo_some sem_int) semo_none (by rw [nmS_len]; omega) (nmS_tail c t)) (by
            have := rvd_catS (K := K) (a := nmS [(c + 1) % 26]) (b := nmS t) (by rw [nmS_len, nmS_len, List.length_singleton]; rw [List.length_cons] at h4; omega)
            rw [nmS_app] at this
            exact this)) (by decide) fun r e => ⟨rot1 (c :: t), _, _, _, by subst e; rfl, ?_, by rw [rot1, List.length_cons]; omega, by rw [rot1, List.length_cons]; rw [List.length_cons] at h4; exact h4, .inr ⟨by rw [rotN_succ, ← h6.1], fun i hi => ?_⟩⟩
        · have := rotN_low (m := 1) h2
          exact this
        · by_cases ei : i = j
          · rw [ei, ← h6.1]
            exact hin
          · exact h6.2 i (by omega)
      · rcases e5 with h | ⟨_, h⟩
        · exact h
        · exact (rot_out (found := ns) (m := n) (by rintro rfl; simp at hl1) hlow (by omega) (by omega) (by rw [hn'] at h; exact h)).elim
      · rintro Γ5 ⟨cs, s4, s6, s7, rfl, hlow2, h1, h8, hni⟩
        refine bp_append (i := 3) (xs := ns.map nmD) rfl (by decide) (semp_varD (x := nmD cs) (by decide) rfl) (by rw [List.length_map]; omega) fun r e => ⟨nmD cs, e, ns ++ [cs], s4, .d (nmD cs), s6, s7, by
          show _ = [potG.par, _, _, Sl.l ((ns ++ [cs]).map nmD), s4, _, s6, s7]
          rw [List.map_append]
          rfl, by rw [List.length_append, List.length_singleton]; omega, ?_, fun x hx => ?_, fun x hx => ?_⟩
        · exact List.nodup_append.mpr ⟨ok.nd, by simp, fun a ha b hb => by rw [List.mem_singleton] at hb; subst hb; rintro rfl; exact hni ha⟩
        · rcases List.mem_append.mp hx with h | h
          · exact ok.low x h
          · rw [List.mem_singleton] at h; subst h; exact hlow2
        · rcases List.mem_append.mp hx with h | h
          · exact ok.len x h
          · rw [List.mem_singleton] at h; subst h; exact ⟨h1, h8⟩
  · rintro Γ2 ⟨ns, a, b, c, d, rfl, h1, h2⟩
    exact bp_retL (i := 3) (xs := ns.map nmD) rfl (by decide) ⟨ns, rfl, h1, h2⟩
end
end RP
end
section
set_option autoImplicit false
set_option maxHeartbeats 4000000
namespace RP
open PySem PySem.Spec PyProof.Rows L2
def CPowB (i j : Int) : Prop := 0 ≤ j ∧ (Builtin.Int.intBits i : Int) * j ≤ 2 ^ 27
theorem op_powB {X : Cx} : OpR X (binaryOp .Pow) (rI CPowB fun i j => .int (i ^ j.toNat)) := opI fun _ _ _ _ _ _ _ hc q => pow_int hc.1 hc.2 q
def begC (ns : List Int) (at_ : Nat) : Int := if h : at_ < ns.length then ns[at_] else 3 * (at_ : Int) + 2
def begS (ns : List Int) (at_ : Nat) : Int := (if begC ns at_ < 0 then -(begC ns at_) else begC ns at_) % ((10 : Int) ^ (60 : Int).toNat) ^ (12 : Int).toNat
def begM (ns : List Int) (at_ : Nat) : Int := begS ns at_ * 2862933555777941757 + 3037000493 * (at_ : Int) + (if decide (begC ns at_ < 0) then 1 else 0)
def begL (ns : List Int) (at_ : Nat) : List PyData := potL (imax 0 (begS ns at_ - (10 : Int) ^ (18 : Int).toNat)) (begM ns at_ % 72057594037927931) 0
/-- the script: a list that nobody changes -/
def ScrR (K : PySem.W.Frag) (ns : List Int) (H : Hp) (v : V) : Prop := ∃ a, v = .ref a ∧ ((∃ o, H a = some (.frz o (.lst (ns.map V.int)))) ∨ ∃ (o : Obj) (its : Array Value) (n : Nat), K.lookup a = some o ∧ o.cls = .type "list" ∧ o.dict = none ∧ o.data = .seq its n ∧ its.size ≤ sizeLine ∧ Vals (ns.map V.int) its.toList)
theorem scrR_sq {K : PySem.W.Frag} {ns : List Int} {H : Hp} {v : V} (h : ScrR K ns H v) : ∃ a, v = .ref a ∧ SqL K H a (ns.map V.int) := by
  obtain ⟨a, e, h⟩ := h
  rcases h with ⟨o, h⟩ | h
  · exact ⟨a, e, .inl (.inr ⟨o, h⟩)⟩
  · exact ⟨a, e, .inr h⟩
theorem scrR_nl {K : PySem.W.Frag} {ns : List Int} {H H' : Hp} {v : V} (n : NL H H') (h : ScrR K ns H v) : ScrR K ns H' v := by
  obtain ⟨a, e, h⟩ := h
  rcases h with ⟨o, h⟩ | h
  · exact ⟨a, e, .inl ⟨o, n _ _ (by intro xs z; cases z) h⟩⟩
  · exact ⟨a, e, .inr h⟩
theorem scrR_fst {K : PySem.W.Frag} {ns : List Int} {H : Hp} {v : V} (h : ScrR K ns H v) : Fst (ScrR K ns) H v := fun _ n => scrR_nl n h
theorem cvd_lenScr {K : PySem.W.Frag} {ns : List Int} : CvD K (fun xs H Q => ∃ p ys, xs = [.ref p] ∧ (SqL K H p ys ∨ SqT K H p ys) ∧ Q (.int ys.length) H) [.g (ScrR K ns)] (.d (.int (ns.length : Int))) := fun H vs Q a q => by
  match vs, a with
  | [v], ⟨h1, _⟩ =>
    obtain ⟨p, rfl, h2⟩ := scrR_sq h1.now
    refine ⟨p, _, rfl, .inl h2, ?_⟩
    rw [List.length_map]
    exact q _ H (Same.refl H) (.int _)
theorem rvd_ixScr {K : PySem.W.Frag} {ns : List Int} {i : Nat} {x : Int} (h : ns[i]? = some x) : RvD K (rIxL K) (.g (ScrR K ns)) (.d (.int (i : Int))) (.d (.int x)) := fun H v w Q a b q => by
  obtain ⟨p, rfl, h2⟩ := scrR_sq a.now
  have hb := (List.getElem?_eq_some_iff.mp h).1
  refine ⟨p, ns.map V.int, (i : Int), .int x, rfl, Dt.isInt b, h2, ?_, q _ H (Same.refl H) (.int _)⟩
  show (ixN (ns.map V.int).length (i : Int)).bind (fun j => (ns.map V.int)[j]?) = _
  unfold ixN
  rw [if_pos (by omega), if_pos (by rw [List.length_map]; omega), Int.toNat_natCast]
  show (ns.map V.int)[i]? = _
  rw [List.getElem?_map, h]
  rfl
def pr_begun (K : PySem.W.Frag) : List Rk → Rk → Prop := fun rs r => ∃ (ns : List Int) (at_ : Nat), rs = [.g (ScrR K ns), .d (.int (at_ : Int))] ∧ r = .l (begL ns at_)
section
variable {P : Program} {w : World} {K : PySem.W.Frag} {mg : Str → Option Value} {base : Heap}
theorem cvd_abs {i : Int} : CvD K (fun xs H Q => ∃ i, xs = [V.int i] ∧ Q (.int (if i < 0 then -i else i)) H) [.d (.int i)] (.d (.int (if i < 0 then -i else i))) := fun H vs Q a q => by
  match vs, a with
  | [v], ⟨h1, _⟩ =>
    have e1 := Dt.isInt h1
    subst e1
    exact ⟨i, rfl, q _ H (Same.refl H) (.int _)⟩
theorem cvd_intB {b : Bool} : CvD K (fun xs H Q => (∃ i, xs = [V.int i] ∧ Q (.int i) H) ∨ ∃ k, xs = [V.bl k] ∧ Q (.int (if k then 1 else 0)) H) [.d (.bool b)] (.d (.int (if b then 1 else 0))) := fun H vs Q a q => by
  match vs, a with
  | [v], ⟨h1, _⟩ =>
    have e1 := Dt.isBool h1
    subst e1
    exact .inr ⟨b, rfl, q _ H (Same.refl H) (.int _)⟩
theorem w_law_begun (T : Tx K mg) : Df P w K mg base CX0 1 "_law_begun" p_law_begun (spF K (pr_begun K)) := by
  refine df_sem (N := n_law_begun) (k := 0) T.f_law_begun (fun _ _ _ _ _ _ us hl => match us, hl with | [_, _], _ => rfl) sc_law_begun (fun rs r h => by obtain ⟨ns, a, rfl, _⟩ := h; rfl) ?_
  intro rs r h fa cdv A outer sh H E hr
  refine ⟨_, (pss_cons (ps_set (i := 2) sc_law_begun.nd rfl (Or.inl rfl) (pe_ifExp (pt_cmpR op_lt (pv 1) (pe_callB call_len_seq rfl T.b_len (by decide +kernel) (pa_cons (pv 0) pa_nil)) (nomark _)) (pe_ix ix_list (pv 0) (pv 1) (fun _ _ => rfl)) (pe_op op_add (pe_op op_mul pe_int (pv 1)) pe_int)))
    (pss_cons (ps_set (i := 3) sc_law_begun.nd rfl (Or.inl rfl) (pe_op op_mod (pe_callB call_abs rfl T.b_abs (by decide +kernel) (pa_cons (pv 2) pa_nil)) (pe_op op_powB (pe_op op_pow pe_int pe_int) pe_int)))
    (pss_cons (ps_set (i := 4) sc_law_begun.nd rfl (Or.inl rfl) (pe_op op_add (pe_op op_add (pe_op op_mul (pv 3) pe_int) (pe_op op_mul pe_int (pv 1))) (pe_callTy call_int1 rfl T.b_int (by decide +kernel) (pa_cons (pe_cmpR op_lt (pv 2) pe_int (nomark _)) pa_nil))))
    (pss_one (ps_ret (pe_lst (pa_cons (pe_callB (call_max2 rfl) rfl T.b_max (by decide +kernel) (pa_cons pe_int (pa_cons (pe_op op_sub (pv 3) (pe_op op_pow pe_int pe_int)) pa_nil))) (pa_cons (pe_op op_mod (pv 4) pe_int) (pa_cons pe_int pa_nil))))))))), ?_⟩
  obtain ⟨ns, a, rfl, rfl⟩ := h
  refine ⟨_, semb_seq (semb_set (r := .d (.int (begC ns a))) ?_) (semb_seq (semb_set (r := .d (.int (begS ns a))) ?_) (semb_seq (semb_set (r := .d (.int (begM ns a))) ?_) (semb_ret (r := .l (begL ns a)) ?_))), .inl rfl⟩
  · refine sem_if (b := decide ((a : Int) < (ns.length : Int))) (semt_B (sem_op (sem_var rfl) (sem_cb (sema_cons (sem_varG rfl) sema_nil) cvd_lenScr) rvd_lt)) (fun e => ?_) (fun e => ?_)
    · have h := of_decide_eq_true e
      have ha : a < ns.length := by omega
      have e2 : begC ns a = ns[a] := dif_pos ha
      rw [e2]
      exact sem_op (sem_varG rfl) (sem_var rfl) (rvd_ixScr (List.getElem?_eq_getElem ha))
    · have h := of_decide_eq_false e
      have e2 : begC ns a = 3 * (a : Int) + 2 := dif_neg (by omega)
      rw [e2]
      exact sem_op (sem_op sem_int (sem_var rfl) (rvd_I (Or.inl (by decide)) fun _ => .int _)) sem_int rvd_add
  · exact sem_op (sem_cb (sema_cons (sem_var rfl) sema_nil) cvd_abs) (sem_op (sem_op sem_int sem_int (rvd_I (show CPow 10 60 from ⟨by decide, by decide, by decide⟩) fun _ => .int _)) sem_int (rvd_I (show CPowB _ 12 from ⟨by decide, by decide +kernel⟩) fun _ => .int _)) (rvd_I (by decide +kernel) fun _ => .int _)
  · exact sem_op (sem_op (sem_op (sem_var rfl) sem_int (rvd_I (Or.inr (by decide)) fun _ => .int _)) (sem_op sem_int (sem_var rfl) (rvd_I (Or.inl (by decide)) fun _ => .int _)) rvd_add) (sem_cb (sema_cons (sem_op (sem_var rfl) sem_int rvd_lt) sema_nil) cvd_intB) rvd_add
  · exact sem_lst (ds := begL ns a) (sema_cons (sem_cb (sema_cons sem_int (sema_cons (sem_op (sem_var rfl) (sem_op sem_int sem_int (rvd_I (show CPow 10 18 from ⟨by decide, by decide, by decide⟩) fun _ => .int _)) rvd_sub) sema_nil)) cvd_max2) (sema_cons (sem_op (sem_var rfl) sem_int (rvd_I (by decide) fun _ => .int _)) (sema_cons sem_int sema_nil))) (by simp [begL, potL])
end
end RP
end
section
set_option autoImplicit false
set_option maxHeartbeats 4000000
namespace RP
open PySem PySem.Spec PyProof.Rows L2
/-- all but the lists at z and D stands -/
structure KZ (z D : Addr) (H H' : Hp) : Prop where
  keep : ∀ b u, b ≠ z → b ≠ D → H b = some u → H' b = some u
  lz : ∃ vs, H z = some (.lst vs)
  ld : ∃ vs, H D = some (.lst vs)
def refS (a : Addr) : Hp → V → Prop := fun _ v => v = .ref a
section
variable {K : PySem.W.Frag} {H0 H H' H'' B : Hp} {Γ Γ1 : List Sl} {σ σ' : L2.St} {z : Addr} {p : Nat} {te ta tb : TE} {tr : TA} {tt : TT} {g : TG} {wi : TI} {vs : List Nat} {r r1 r2 : Rk} {v : V} {P P1 P3 : Rk → Prop} {PA1 : List Rk → Prop} {post : Rk → Prop} {nx : List Sl → Prop} {tS uS : TS}
theorem KZ.tk {D : Addr} (a : KZ z D H H') : TK H H' := fun b xs h => a.keep b _ (by
  rintro rfl
  obtain ⟨vs, e⟩ := a.lz
  rw [e] at h
  cases h) (by
  rintro rfl
  obtain ⟨vs, e⟩ := a.ld
  rw [e] at h
  cases h) h
theorem PS.base_ne (s : PS K H0 Γ p σ H z) (b : Same B H0) {a : Addr} {o : HO} (h : B a = some o) : a ≠ z ∧ H a = some o := by
  refine ⟨?_, s.base _ _ (b _ _ h)⟩
  rintro rfl
  have := b _ _ h
  rw [s.at.2] at this
  cases this
theorem PS.varG (s : PS K H0 Γ p σ H z) {q : Nat} {R : Hp → V → Prop} (hq : q ≠ p) (h : Γ[q]? = some (.g R)) : ∃ v, σ[q]? = some (some v) ∧ Fst R H v := by
  obtain ⟨i, j, k, rp⟩ := s.ex
  exact rp.at_ q _ (by rw [List.getElem?_set_ne (Ne.symm hq)]; exact h) (by intro z; cases z)
theorem PS.varR (s : PS K H0 Γ p σ H z) {q : Nat} {a : Addr} (hq : q ≠ p) (h : Γ[q]? = some (.g (refS a))) : σ[q]? = some (some (.ref a)) := by
  obtain ⟨v, h1, h2⟩ := s.varG hq h
  have e : v = .ref a := h2.now
  rw [h1, e]
theorem PS.wiped (s2 : PS K H0 Γ p σ H z) (hpv : p ∉ vs) : PS K H0 (wipeS Γ vs) p (wipe σ vs) H z := by
  obtain ⟨i0, j0, k0, rp⟩ := s2.ex
  refine ⟨⟨i0, j0, k0, ?_⟩, ?_, by rw [wipeS_len]; exact s2.pl⟩
  · have rw' := rp.wiped vs
    have conv : ∀ (j : Nat) (t : Sl), ((wipeS Γ vs).set p (.l (potL i0 j0 k0)))[j]? = some t → (wipeS (Γ.set p (.l (potL i0 j0 k0))) vs)[j]? = some t := fun j t hj => by
      rw [wipeS_at]
      rw [getElem?_set', wipeS_at] at hj
      by_cases ejp : p = j
      · subst ejp
        rw [if_pos rfl, if_pos (by rw [wipeS_len]; exact s2.pl)] at hj
        rw [if_neg (fun h => hpv h.1), List.getElem?_set_self s2.pl]
        exact hj
      · rw [if_neg ejp] at hj
        rw [List.length_set, List.getElem?_set_ne ejp]
        exact hj
    refine ⟨rw'.same, by rw [List.length_set]; have := rw'.len; rw [wipeS_len, List.length_set] at this; rw [wipeS_len]; exact this, fun j t hj n => rw'.at_ j t (conv j t hj) n, fun j l t u ne hj hl ho hL => ?_⟩
    exact rw'.dis j l t u ne (conv j t hj) (conv l u hl) ho hL
  · rw [wipe_at, if_neg (fun h => hpv h.1)]
    exact s2.hz
theorem semp_varG {q : Nat} {R : Hp → V → Prop} (hq : q ≠ p) (h : Γ[q]? = some (.g R)) : SemP B p K Γ (tVar q) (fun r => r = .g R) := semp_pure (fun i j k => sem_varG (by rw [List.getElem?_set_ne (Ne.symm hq)]; exact h)) fun xs e => by cases e
/-- a comprehension; W tells of what is gathered -/
theorem ps_lc {n : Nat} {Y : Nat → Hp → V → Prop} {W : Addr → Nat → Hp → List V → Prop} {Q : VK} (s1 : PS K H0 Γ p σ H z) (hpv : p ∉ vs) (hn : n ≤ 100000)
    (hi : ∀ R : It → Hp → Prop, (∀ J, L2.Walk J n (fun G => SZ z H G) (fun i Ga v Gb => Same Ga Gb ∧ Y i Gb v) → R J H) → wi σ H R)
    (w0 : ∀ D, H D = none → W D 0 (upd H D (.lst [])) [])
    (wk : ∀ D i G G' acc, KZ z D G G' → W D i G acc → W D i G' acc)
    (hs : ∀ D i v G acc, i < n → H D = none → D ≠ z → G D = some (.lst acc) → Y i G v → SZ z H G → W D i G acc → PS K H0 (wipeS Γ vs) p (wipe σ vs) G z → ∀ C : L2.St → Hp → Prop,
      (∀ σ2, wipe σ2 vs = wipe σ vs → (∀ (C2 : VK) (C3 : Hp → Prop), (∀ u G4, SZ z G G4 → PotAt G4 z → W D (i + 1) G4 (acc ++ [u]) → C2 u G4) → (∀ G3, SZ z G G3 → PotAt G3 z → W D (i + 1) G3 acc → C3 G3) → tt σ2 G fun b G3 => if b = true then te σ2 G3 C2 else C3 G3) → C σ2 G) → g v (wipe σ vs) G C)
    (q : ∀ D acc G, H D = none → G D = some (.lst acc) → acc.length ≤ n → SZ z H G → PS K H0 Γ p σ G z → D ≠ z → W D n G acc → Q (.ref D) G) : tLc wi g tt te vs σ H Q := hi _ fun J w => by
  intro D hD
  have hDz : D ≠ z := fun ez => by
    obtain ⟨⟨_, _, _, hz⟩, _⟩ := s1.at
    rw [ez, hz] at hD
    cases hD
  have up : ∀ {G : Hp} {o : HO}, SZ z H G → SZ z H (upd G D o) := fun sz => ⟨fun c u n hc => by
      rw [upd_ne (by rintro rfl; rw [hD] at hc; cases hc)]
      exact sz.keep c u n hc, fun c hc => by
      by_cases ec : c = D
      · subst ec
        exact hD
      · rw [upd_ne ec] at hc
        exact sz.free c hc, sz.src⟩
  have upz : ∀ {G : Hp} {o : HO}, PotAt G z → PotAt (upd G D o) z := fun pz => by
    obtain ⟨a, b, c, hz⟩ := pz
    exact ⟨a, b, c, by rw [upd_ne (Ne.symm hDz)]; exact hz⟩
  have pl : ∀ {G : Hp}, PotAt G z → ∃ vs, G z = some (.lst vs) := fun ⟨_, _, _, h⟩ => ⟨_, h⟩
  refine lc_it w (fun m G => SZ z H G ∧ PotAt G z ∧ ∃ acc, G D = some (.lst acc) ∧ acc.length ≤ m ∧ W D m G acc) ⟨up (SZ.refl s1.at.1), upz s1.at.1, [], upd_same, Nat.le_refl _, w0 D hD⟩ (fun m G _ s => s.1) (fun m x G G' hm s' y => ?_) (fun G s' => ?_)
  · obtain ⟨sz, pz, acc, hacc, hlen, hw⟩ := s'
    obtain ⟨sm, hy⟩ := y
    have szG := sz.trans (SZ.of pz sm)
    have pz' := pz.mono sm
    have hacc' := sm _ _ hacc
    refine hs D m x G' acc hm hD hDz hacc' hy szG (wk D m G G' acc ⟨fun b u _ _ h => sm b u h, pl pz, ⟨_, hacc⟩⟩ hw) ((s1.over szG pz').wiped hpv) _ fun σ2 hw2 hk => ⟨hw2, ?_⟩
    refine hk _ _ (fun u G4 e4 p4 w4 => ?_) (fun G3 e3 p3 w3 => ?_)
    · have h4 := e4.keep _ _ hDz hacc'
      refine ⟨acc, h4, Nat.lt_of_le_of_lt (Nat.le_trans hlen (by omega)) (show 100000 < sizeLine by decide), up (szG.trans e4), upz p4, acc ++ [u], upd_same, by rw [List.length_append, List.length_singleton]; omega, ?_⟩
      exact wk D (m + 1) G4 _ _ ⟨fun b u' _ hb h => by rw [upd_ne hb]; exact h, pl p4, ⟨_, h4⟩⟩ w4
    · exact ⟨szG.trans e3, p3, acc, e3.keep _ _ hDz hacc', by omega, w3⟩
  · obtain ⟨sz, pz, acc, hacc, hlen, hw⟩ := s'
    exact q D acc G hD hacc hlen sz (s1.over sz pz) hDz hw
/-- a comprehension of data -/
theorem semp_lcW (n : Nat) (Y : Nat → Hp → V → Prop) (js : List Nat) (f : Nat → Option PyData) (hpv : p ∉ vs) (hn : n ≤ 100000) (hjs : ∀ j ∈ js, j ∈ vs)
    (hi : ∀ H0 σ H z, Same B H0 → PS K H0 Γ p σ H z → ∀ R : It → Hp → Prop, (∀ J, L2.Walk J n (fun G => SZ z H G) (fun i Ga v Gb => Same Ga Gb ∧ Y i Gb v) → R J H) → wi σ H R)
    (hs : ∀ i, i < n → ∀ H0 σ G z v, Same B H0 → Y i G v → PS K H0 (wipeS Γ vs) p σ G z → ∀ C : L2.St → Hp → Prop,
      (∀ σ2 Γ2, PS K H0 Γ2 p σ2 G z → Dif js σ σ2 → ((∃ y, f i = some y ∧ SemPT B p K Γ2 tt (fun b => b = true) ∧ SemP B p K Γ2 te (fun r => r = .d y)) ∨ (f i = none ∧ SemPT B p K Γ2 tt (fun b => b = false))) → C σ2 G) → g v σ G C) :
    SemP B p K Γ (tLc wi g tt te vs) (fun r => r = .l ((List.range n).filterMap f)) := fun H0 σ H z Q b s q => by
  refine ps_lc (Y := Y) (W := fun _ i G acc => DtL K G acc ((List.range i).filterMap f)) s hpv hn (hi H0 σ H z b s) (fun _ _ => .nil) (fun _ _ _ _ _ k h => DtL.keep k.tk h) (fun D i v G acc hin hD hDz hacc hy sz hw sw C hc => hs i hin H0 _ G z v b hy sw C fun σ2 Γ2 s2 dif hcase => hc σ2 (wipe_dif dif hjs) fun C2 C3 h2 h3 => ?_) (fun D acc G hD hacc hlen sz s' hDz hw => q _ G _ rfl sz s' ⟨⟨D, acc, rfl, hD, hacc, hw⟩, fun _ e => hDz (by cases e; rfl)⟩)
  rcases hcase with ⟨y, hf, ht, he⟩ | ⟨hf, ht⟩
  · refine ht H0 σ2 G z _ b s2 fun bb G3 hb e3 s3 => ?_
    subst hb
    refine iteT (he H0 σ2 G3 z _ b s3 fun u G4 r hr e4 s4 a4 => ?_)
    subst hr
    refine h2 u G4 (e3.trans e4) s4.at.1 ?_
    rw [List.range_succ, List.filterMap_append]
    simp only [List.filterMap_cons, hf, List.filterMap_nil]
    exact DtL.append (DtL.keep ((e3.trans e4).tk) hw) (.cons a4.1 .nil)
  · refine ht H0 σ2 G z _ b s2 fun bb G3 hb e3 s3 => ?_
    subst hb
    refine iteF (h3 G3 e3 s3.at.1 ?_)
    rw [List.range_succ, List.filterMap_append]
    simp only [List.filterMap_cons, hf, List.filterMap_nil, List.append_nil]
    exact DtL.keep e3.tk hw
/-! ### by values, the base heap known -/
def RvB (B : Hp) (K : PySem.W.Frag) (o : R2) (x y r : Rk) : Prop := ∀ (H : Hp) (v w : V) (Q : VK), Same B H → Ag K H x v → Ag K H y w → (∀ u H', Same H H' → Res K H H' r u → Q u H') → o v w H Q
def CvB (B : Hp) (K : PySem.W.Frag) (o : List V → Hp → VK → Prop) (rs : List Rk) (r : Rk) : Prop := ∀ (H : Hp) (vs : List V) (Q : VK), Same B H → AgL K H vs rs → (∀ u H', Same H H' → Res K H H' r u → Q u H') → o vs H Q
theorem semp_opB {o : R2} (ha : SemP B p K Γ ta P1) (hb : SemP B p K Γ tb P3) (h : ∀ r1 r2, P1 r1 → P3 r2 → ∃ r, P r ∧ (∀ xs, r ≠ .s xs) ∧ RvB B K o r1 r2 r) : SemP B p K Γ (tOp o ta tb) P := fun H0 σ H z Q b s q =>
  ha H0 σ H z _ b s fun v H1 r1 h1 e1 s1 a1 => hb H0 σ H1 z _ b s1 fun w H2 r2 h2 e2 s2 a2 => by
    obtain ⟨r, hr, ns, rv⟩ := h r1 r2 h1 h2
    refine rv H2 v w Q (b.trans s2.base) (a1.ag.mono e2).1 a2.ag.1 fun u H3 e3 a3 => ?_
    have e4 := SZ.of s2.at.1 e3
    exact q u H3 r hr ((e1.trans e2).trans e4) (s2.mono e3) ((resz_of s2.at.1 ns a3).back (e1.trans e2))
theorem semp_cbB {o : List V → Hp → VK → Prop} (ha : SemPA B p K Γ tr PA1) (h : ∀ rs, PA1 rs → ∃ r, P r ∧ (∀ xs, r ≠ .s xs) ∧ CvB B K o rs r) : SemP B p K Γ (tCB o tr) P := fun H0 σ H z Q b s q =>
  ha H0 σ H z _ b s fun vs H1 rs hrs e1 s1 a1 => by
    obtain ⟨r, hr, ns, cv⟩ := h rs hrs
    exact cv H1 vs Q (b.trans s1.base) a1.agl fun u H2 e2 a2 => q u H2 r hr (e1.trans (SZ.of s1.at.1 e2)) (s1.mono e2) ((resz_of s1.at.1 ns a2).back e1)
/-- xs.extend(a new list) -/
theorem bp_extend {i : Nat} {xs : List PyData} (hi : Γ[i]? = some (.l xs)) (hip : i ≠ p) (h : SemP B p K Γ te P) (hn : ∀ r, P r → ∃ ys, r = .l ys ∧ xs.length + ys.length ≤ 100000 ∧ nx (Γ.set i (.l (xs ++ ys)))) : BP B p K Γ (tDrop (tBM K "list" rExtend (tVar i) (tCons te tNil))) post nx := fun H0 z D b e σ H s => by
  obtain ⟨i0, j0, k0, rp⟩ := s.ex
  have hg : (Γ.set p (.l (potL i0 j0 k0)))[i]? = some (.l xs) := by rw [List.getElem?_set_ne (Ne.symm hip)]; exact hi
  obtain ⟨a, vs, h1, h2, h3, h4⟩ := rp.ownAt hg
  have naz : a ≠ z := fun ez => by
    refine rp.dis i p _ _ hip hg (by rw [List.getElem?_set_self s.pl]) rfl rfl ?_
    rw [s.hz, h1, ez]
  refine ⟨_, h1, .inl ⟨rfl, vs, SqL.of h2⟩, h H0 σ H z _ b s fun v H1 r hr e1 s1 a1 => ?_⟩
  obtain ⟨ys, rfl, hl, hx⟩ := hn r hr
  obtain ⟨⟨c, ws, rfl, h5, h6, h7⟩, _⟩ := a1
  refine ⟨a, c, vs, ws, rfl, rfl, e1.keep _ _ naz h2, h6, Nat.le_trans (by rw [h3.length, h7.length]; exact hl) (by decide), ?_⟩
  obtain ⟨i1, j1, k1, rp1⟩ := s1.ex
  have hg1 : (Γ.set p (.l (potL i1 j1 k1)))[i]? = some (.l xs) := by rw [List.getElem?_set_ne (Ne.symm hip)]; exact hi
  have := rp1.change hg1 h1 (e1.keep _ _ naz h2) ((DtL.keep e1.tk h3).append h7)
  rw [List.set_comm _ _ (Ne.symm hip)] at this
  exact e.2 σ _ _ hx ⟨⟨i1, j1, k1, this⟩, s1.hz, by rw [List.length_set]; exact s1.pl⟩
/-! ### walks over a list of the base heap -/
theorem hi_list {a : Addr} {xs : List V} (s : PS K H0 Γ p σ H z) (b : Same B H0) (ha : B a = some (.lst xs)) {tv : TE} (hv : ∀ Q : VK, Q (.ref a) H → tv σ H Q) : ∀ R : It → Hp → Prop,
    (∀ J, L2.Walk J xs.length (fun G => SZ z H G) (fun i Ga v Gb => Same Ga Gb ∧ xs[i]? = some v) → R J H) → iList K tv σ H R := fun R q => by
  obtain ⟨ne, h⟩ := s.base_ne b ha
  refine hv _ ⟨a, rfl, ⟨xs, SqL.of h⟩, q _ ?_⟩
  refine (walk_list (K := K) (a := a) (xs := xs)).mono (fun G sz => SqL.of (sz.keep _ _ ne h)) fun i G x G' hi sz y => ?_
  obtain ⟨rfl, hx⟩ := y
  exact ⟨Same.refl _, hx⟩
def YEn (xs : List V) : Nat → Hp → V → Prop := fun i G v => ∃ T x, v = .ref T ∧ G T = some (.tup [.int (i : Nat), x]) ∧ xs[i]? = some x
theorem hi_enum {q : Nat} {a : Addr} {xs : List V} (s : PS K H0 Γ p σ H z) (b : Same B H0) (ha : B a = some (.lst xs)) (hv : σ[q]? = some (some (.ref a))) : ∀ R : It → Hp → Prop,
    (∀ J, L2.Walk J xs.length (fun G => SZ z H G) (fun i Ga v Gb => Same Ga Gb ∧ YEn xs i Gb v) → R J H) → iEnum K (tCons (tVar q) tNil) σ H R := fun R qq => by
  obtain ⟨ne, h⟩ := s.base_ne b ha
  refine ⟨_, hv, a, xs, rfl, SqL.of h, qq _ ?_⟩
  refine (walk_enum (K := K) (a := a) (xs := xs)).mono (fun G sz => SqL.of (sz.keep _ _ ne h)) fun i G x G' hi sz y => ?_
  obtain ⟨T, a', x', rfl, hT, rfl, ea, eb⟩ := y
  cases ea
  exact ⟨same_new hT, T, x', rfl, upd_same, eb⟩
/-- a pair that stands goes to two slots -/
theorem ps_pair {i j : Nat} {T : Addr} {x y : V} {r1 r2 : Rk} {C : L2.St → Hp → Prop} (s : PS K H0 Γ p σ H z) (hT : H T = some (.tup [x, y])) (hip : i ≠ p) (hjp : j ≠ p) (a1 : ResZ z K H0 H r1 x) (a2 : ResZ z K H0 H r2 y) (n1 : ∀ xs, r1 ≠ .l xs) (n2 : ∀ xs, r2 ≠ .l xs)
    (q : PS K H0 ((Γ.set i r1.sl).set j r2.sl) p ((σ.set i (some x)).set j (some y)) H z → Dif [i, j] σ ((σ.set i (some x)).set j (some y)) → C ((σ.set i (some x)).set j (some y)) H) : gTup K 2 (gCons (gName i) (gCons (gName j) gNil)) (.ref T) σ H C := by
  refine ⟨T, [x, y], rfl, .inl (.inl hT), rfl, x, [y], rfl, y, [], rfl, rfl, q ?_ ⟨by rw [List.length_set, List.length_set], fun k hk => ?_⟩⟩
  · exact (s.store a1 hip fun xs e => absurd e (n1 xs)).store a2 hjp fun xs e => absurd e (n2 xs)
  · rw [List.getElem?_set_ne (fun e => hk (by simp [e])), List.getElem?_set_ne (fun e => hk (by simp [e]))]
end
end RP
end
section
set_option autoImplicit false
set_option maxHeartbeats 2000000
namespace RP
open PySem PySem.Spec PyProof.Rows L2
inductive LeL : List Nat → List Nat → Prop
  | nil : LeL [] []
  | cons {a b : Nat} {as bs : List Nat} : a ≤ b → LeL as bs → LeL (a :: as) (b :: bs)
theorem LeL.sum {as bs : List Nat} (h : LeL as bs) : as.sum ≤ bs.sum := by
  induction h with
  | nil => exact Nat.le_refl _
  | cons h _ ih => simp only [List.sum_cons]; omega
theorem LeL.eq {as bs : List Nat} (h : LeL as bs) : as.sum = bs.sum → as = bs := by
  induction h with
  | nil => intro _; rfl
  | cons h t ih =>
    intro e
    have := t.sum
    simp only [List.sum_cons] at e
    rw [ih (by omega)]
    congr 1
    omega
theorem LeL.room {as bs : List Nat} (h : LeL as bs) : as.sum < bs.sum → ∃ (i a b : Nat), as[i]? = some a ∧ bs[i]? = some b ∧ a < b := by
  induction h with
  | nil => intro h; exact absurd h (by simp)
  | @cons a b as bs h t ih =>
    intro e
    simp only [List.sum_cons] at e
    by_cases hab : a < b
    · exact ⟨0, a, b, rfl, rfl, hab⟩
    · obtain ⟨i, x, y, h1, h2, h3⟩ := ih (by omega)
      exact ⟨i + 1, x, y, by simpa using h1, by simpa using h2, h3⟩
theorem LeL.set {as bs : List Nat} (h : LeL as bs) : ∀ {i a b : Nat}, as[i]? = some a → bs[i]? = some b → a < b → LeL (as.set i (a + 1)) bs ∧ (as.set i (a + 1)).sum = as.sum + 1 := by
  induction h with
  | nil => intro i a b h; simp at h
  | @cons x y as bs h t ih =>
    intro i a b h1 h2 h3
    cases i with
    | zero =>
      simp at h1 h2
      subst h1 h2
      exact ⟨.cons h3 t, by simp only [List.set_cons_zero, List.sum_cons]; omega⟩
    | succ i =>
      obtain ⟨q1, q2⟩ := ih (by simpa using h1) (by simpa using h2) h3
      exact ⟨.cons h q1, by simp only [List.set_cons_succ, List.sum_cons, q2]; omega⟩
theorem LeL.zero : ∀ bs : List Nat, LeL (bs.map fun _ => 0) bs
  | [] => .nil
  | b :: bs => .cons (Nat.zero_le _) (LeL.zero bs)
theorem LeL.refl : ∀ bs : List Nat, LeL bs bs
  | [] => .nil
  | b :: bs => .cons (Nat.le_refl _) (LeL.refl bs)
/-- rows' choices; places; the order so far -/
inductive Ord (css : List (List (List Nat))) : List Nat → List (Nat × List Nat) → Prop
  | nil : Ord css (css.map fun _ => 0) []
  | snoc {ps : List Nat} {od : List (Nat × List Nat)} {a k : Nat} {cs : List (List Nat)} {c : List Nat} : Ord css ps od → css[a]? = some cs → ps[a]? = some k → cs[k]? = some c → Ord css (ps.set a (k + 1)) (od ++ [(a, c)])
def lensL (css : List (List (List Nat))) : List Nat := css.map List.length
def odD (x : Nat × List Nat) : PyData := .tuple [.int (x.1 : Nat), adD x.2]
section
variable {css : List (List (List Nat))} {ps : List Nat} {od : List (Nat × List Nat)}
theorem Ord.le (h : Ord css ps od) : LeL ps (lensL css) ∧ od.length = ps.sum := by
  induction h with
  | nil =>
    have := LeL.zero (lensL css)
    rw [show (lensL css).map (fun _ => 0) = css.map fun _ => 0 by unfold lensL; rw [List.map_map]; rfl] at this
    refine ⟨this, ?_⟩
    clear this
    induction css with
    | nil => rfl
    | cons c cs ih =>
      rw [List.map_cons, List.sum_cons, ← ih]
      rfl
  | @snoc ps od a k cs c h h1 h2 h3 ih =>
    have hk : k < cs.length := (List.getElem?_eq_some_iff.mp h3).1
    have hl : (lensL css)[a]? = some cs.length := by unfold lensL; rw [List.getElem?_map, h1]; rfl
    obtain ⟨q1, q2⟩ := ih.1.set h2 hl hk
    exact ⟨q1, by rw [List.length_append, List.length_singleton, q2, ih.2]⟩
theorem Ord.full (h : Ord css ps od) (e : od.length = (lensL css).sum) : ps = lensL css := h.le.1.eq (by rw [← h.le.2]; exact e)
theorem Ord.room (h : Ord css ps od) (e : od.length < (lensL css).sum) : ∃ (i k : Nat) (cs : List (List Nat)), ps[i]? = some k ∧ css[i]? = some cs ∧ k < cs.length := by
  obtain ⟨i, a, b, h1, h2, h3⟩ := h.le.1.room (by rw [← h.le.2]; exact e)
  unfold lensL at h2
  rw [List.getElem?_map] at h2
  obtain ⟨cs, hc, rfl⟩ := Option.map_eq_some_iff.mp h2
  exact ⟨i, a, cs, h1, hc, h3⟩
theorem LeL.len {as bs : List Nat} (h : LeL as bs) : as.length = bs.length := by
  induction h with
  | nil => rfl
  | cons _ _ ih => rw [List.length_cons, List.length_cons, ih]
theorem Ord.len (h : Ord css ps od) : ps.length = css.length := by
  rw [h.le.1.len]
  exact List.length_map _
end
end RP
end
section
set_option autoImplicit false
set_option maxHeartbeats 4000000
namespace RP
open PySem PySem.Spec PyProof.Rows L2
theorem call_lenK {X : Cx} {K : PySem.W.Frag} (e : X.K = K) : CallR X (.builtin "len") (fun xs H Q => ∃ p ys, xs = [V.ref p] ∧ (SqL K H p ys ∨ SqT K H p ys) ∧ Q (.int ys.length) H) := by
  subst e
  exact call_len_seq
/-- rows (lists of choices) that stand in B -/
def RowsB (K : PySem.W.Frag) (B : Hp) (rv : Addr) (css : List (List (List Nat))) : Prop := ∃ rvs : List V, B rv = some (.lst rvs) ∧ rvs.length = css.length ∧
  ∀ (i : Nat) (cs : List (List Nat)), css[i]? = some cs → ∃ (L : Addr) (ws : List V), rvs[i]? = some (V.ref L) ∧ B L = some (.lst ws) ∧ DtL K B ws (cs.map adD)
def spMix (K : PySem.W.Frag) : Sp := fun vs H Q _ => ∃ z rv css, vs = [.ref z, .ref rv] ∧ PotAt H z ∧ RowsB K (delH z H) rv css ∧ css.length ≤ 4 ∧ (∀ cs ∈ css, cs.length ≤ 4) ∧
  ∀ v H' od, Ord css (lensL css) od → SZ z H H' → PotAt H' z → ResZ z K H H' (.l (od.map odD)) v → Q v H'
theorem filterMap_all {α : Type} (f : Nat → α) : ∀ n, (List.range n).filterMap (fun i => some (f i)) = (List.range n).map f := fun n => by simp
theorem range_map {α β : Type} (l : List α) (f : α → β) (g : Nat → β) (h : ∀ i a, l[i]? = some a → g i = f a) : (List.range l.length).map g = l.map f := by
  apply List.ext_getElem?
  intro i
  rw [List.getElem?_map, List.getElem?_map]
  by_cases hi : i < l.length
  · rw [List.getElem?_range hi, List.getElem?_eq_getElem hi]
    exact congrArg some (h i _ (List.getElem?_eq_getElem hi))
  · rw [List.getElem?_eq_none_iff.mpr (by rw [List.length_range]; omega), List.getElem?_eq_none_iff.mpr (by omega)]
    rfl
theorem len4 {css : List (List (List Nat))} (h : ∀ cs ∈ css, cs.length ≤ 4) : (lensL css).sum ≤ 4 * css.length := by
  induction css with
  | nil => exact Nat.le_refl _
  | cons c cs ih =>
    have := ih fun x hx => h x (List.mem_cons_of_mem _ hx)
    have h2 := h c List.mem_cons_self
    unfold lensL at *
    rw [List.map_cons, List.sum_cons, List.length_cons]
    omega
section
variable {P : Program} {w : World} {K : PySem.W.Frag} {mg : Str → Option Value} {base : Heap} {B : Hp} {Γ : List Sl} {E : XK} {te : TE} {css : List (List (List Nat))} {rv : Addr} {p : Nat}
theorem cvb_lenR {L : Addr} {ws : List V} (h : B L = some (.lst ws)) : CvB B K (fun xs H Q => ∃ p ys, xs = [.ref p] ∧ (SqL K H p ys ∨ SqT K H p ys) ∧ Q (.int ys.length) H) [.g (refS L)] (.d (.int (ws.length : Int))) := fun H vs Q b a q => by
  match vs, a with
  | [v], ⟨h1, _⟩ =>
    have e : v = .ref L := h1.now
    subst e
    exact ⟨L, ws, rfl, .inl (SqL.of (b _ _ h)), q _ H (Same.refl H) (.int _)⟩
theorem rvb_ixR {rv L : Addr} {rvs : List V} {i : Nat} (h : B rv = some (.lst rvs)) (hi : rvs[i]? = some (.ref L)) : RvB B K (rIxL K) (.g (refS rv)) (.d (.int (i : Nat))) (.g (refS L)) := fun H v w Q b a1 a2 q => by
  have e : v = .ref rv := a1.now
  subst e
  have hl : i < rvs.length := (List.getElem?_eq_some_iff.mp hi).1
  refine ⟨rv, rvs, (i : Int), .ref L, rfl, Dt.isInt a2, SqL.of (b _ _ h), ?_, q _ H (Same.refl H) fun _ _ => rfl⟩
  show (ixN rvs.length (i : Int)).bind (fun j => rvs[j]?) = _
  unfold ixN
  rw [if_pos (by omega), if_pos (by omega), Int.toNat_natCast]
  exact hi
theorem rvb_ixD {L : Addr} {ws : List V} {ds : List PyData} {x : PyData} {i : Nat} (h : B L = some (.lst ws)) (hd : DtL K B ws ds) (hi : ds[i]? = some x) : RvB B K (rIxL K) (.g (refS L)) (.d (.int (i : Nat))) (.d x) := fun H v w Q b a1 a2 q => by
  have e : v = .ref L := a1.now
  subst e
  obtain ⟨u, hu, hx⟩ := hd.get hi
  have hl : i < ws.length := (List.getElem?_eq_some_iff.mp hu).1
  refine ⟨L, ws, (i : Int), u, rfl, Dt.isInt a2, SqL.of (b _ _ h), ?_, q _ H (Same.refl H) (Dt.keep (TK.of b) hx)⟩
  show (ixN ws.length (i : Int)).bind (fun j => ws[j]?) = _
  unfold ixN
  rw [if_pos (by omega), if_pos (by omega), Int.toNat_natCast]
  exact hu
/-- [e for row in rows] -/
theorem semp_lcRows {q i : Nat} {vs : List Nat} (hr : RowsB K B rv css) (hq : Γ[q]? = some (.g (refS rv))) (hqp : q ≠ p) (f : Nat → PyData) (hpv : p ∉ vs) (hiv : i ∈ vs) (hn : css.length ≤ 100000)
    (hs : ∀ k cs L ws, css[k]? = some cs → B L = some (.lst ws) → DtL K B ws (cs.map adD) → SemP B p K ((wipeS Γ vs).set i (.g (refS L))) te (fun r => r = .d (f k))) :
    SemP B p K Γ (tLc (iList K (tVar q)) (gName i) tYes te vs) (fun r => r = .l ((List.range css.length).map f)) := by
  obtain ⟨rvs, h1, h2, h3⟩ := hr
  have hip : i ≠ p := fun e => hpv (e ▸ hiv)
  have := semp_lcW (B := B) (p := p) (K := K) (Γ := Γ) (wi := iList K (tVar q)) (g := gName i) (tt := tYes) (te := te) (vs := vs) rvs.length (fun i _ v => rvs[i]? = some v) [i] (fun k => some (f k)) hpv (by omega) (fun j hj => by simp at hj; subst hj; exact hiv)
    (fun H0 σ H z b s R qq => hi_list s b h1 (fun Q hQ => ⟨_, s.varR hqp hq, hQ⟩) R qq) (fun k hk H0 σ G z v b hy s C hc => by
      obtain ⟨cs, hcs⟩ : ∃ cs, css[k]? = some cs := ⟨css[k]'(by omega), List.getElem?_eq_getElem (by omega)⟩
      obtain ⟨L, ws, g1, g2, g3⟩ := h3 k cs hcs
      rw [hy] at g1
      cases g1
      refine hc _ _ (s.store (r := .g (refS L)) (v := .ref L) ⟨fun _ _ => rfl, fun z => by cases z⟩ hip (fun xs z => by cases z)) ⟨List.length_set, fun j hj => List.getElem?_set_ne (fun e => hj (by simp [e]))⟩ (.inl ⟨_, rfl, fun H0 σ H z Q _ s q => q true H rfl (SZ.refl s.at.1) s, hs k cs L ws hcs g2 g3⟩))
  rw [h2, filterMap_all] at this
  exact this
def freeL (css : List (List (List Nat))) (ps : List Nat) : List PyData := (List.range css.length).filterMap fun i => if ps[i]?.getD 0 < (lensL css)[i]?.getD 0 then some (natD i) else none
abbrev rLn (K : PySem.W.Frag) : List V → Hp → VK → Prop := fun xs H Q => ∃ p ys, xs = [V.ref p] ∧ (SqL K H p ys ∨ SqT K H p ys) ∧ Q (.int ys.length) H
theorem mix_total {s2 s3 s4 s5 s6 s7 : Sl} (hr : RowsB K B rv css) (hl : css.length ≤ 100000) : SemP B 0 K [potG.par, .g (refS rv), s2, s3, s4, s5, s6, s7] (tCB (rSum K) (tCons (tLc (iList K (tVar 1)) (gName 7) tYes (tCB (rLn K) (tCons (tVar 7) tNil)) [7]) tNil)) (fun r => r = .d (.int ((lensL css).sum : Int))) := by
  refine semp_cb (sempa_cons (semp_lcRows (f := fun k => natD ((lensL css)[k]?.getD 0)) hr rfl (by decide) (by decide) (by decide) hl fun k cs L ws hc hL hd => ?_) sempa_nil) fun rs ⟨r, rs', e1, e2, e⟩ => ⟨_, rfl, fun xs z => (by cases z), ?_⟩
  · refine semp_cbB (sempa_cons (semp_varG (R := refS L) (by decide) rfl) sempa_nil) fun rs ⟨r, rs', e1, e2, e⟩ => ⟨_, rfl, fun xs z => (by cases z), ?_⟩
    subst e1 e2 e
    have hlw : ws.length = (lensL css)[k]?.getD 0 := by
      unfold lensL
      rw [List.getElem?_map, hc, hd.length, List.length_map]
      rfl
    have := cvb_lenR (K := K) hL
    rw [hlw] at this
    exact this
  · subst e1 e2 e
    have e3 : (List.range css.length).map (fun k => natD ((lensL css)[k]?.getD 0)) = ((lensL css).map fun k : Nat => (k : Int)).map PyData.int := by
      rw [range_map css (fun cs => natD cs.length) _ fun i a hi => by unfold lensL; rw [List.getElem?_map, hi]; rfl]
      unfold lensL
      rw [List.map_map, List.map_map]
      rfl
    rw [e3]
    refine cvd_sum ?_
    generalize lensL css = l
    induction l with
    | nil => rfl
    | cons a l ih => rw [List.map_cons, List.sum_cons, List.sum_cons, ih]; omega
theorem mix_free {ps : List Nat} {s3 s4 s5 s6 s7 : Sl} (hr : RowsB K B rv css) (hl : css.length ≤ 100000) (hpl : ps.length = css.length) :
    SemP B 0 K [potG.par, .g (refS rv), .l (ps.map natD), s3, s4, s5, s6, s7] (tLc (iEnum K (tCons (tVar 1) tNil)) (gTup K 2 (gCons (gName 6) (gCons (gName 7) gNil))) (tTest (tOp (rI0 fun i j => .bl (decide (i < j))) (tOp (rIxL K) (tVar 2) (tVar 6)) (tCB (rLn K) (tCons (tVar 7) tNil)))) (tVar 6) [6, 7]) (fun r => r = .l (freeL css ps)) := by
  obtain ⟨rvs, hb1, hb2, hb3⟩ := hr
  have := semp_lcW (B := B) (p := 0) (K := K) (Γ := [potG.par, .g (refS rv), .l (ps.map natD), s3, s4, s5, s6, s7]) (wi := iEnum K (tCons (tVar 1) tNil)) (g := gTup K 2 (gCons (gName 6) (gCons (gName 7) gNil))) (tt := tTest (tOp (rI0 fun i j => .bl (decide (i < j))) (tOp (rIxL K) (tVar 2) (tVar 6)) (tCB (rLn K) (tCons (tVar 7) tNil)))) (te := tVar 6) (vs := [6, 7]) rvs.length (YEn rvs) [6, 7] (fun i => if ps[i]?.getD 0 < (lensL css)[i]?.getD 0 then some (natD i) else none) (by decide) (by omega) (fun j hj => hj)
    (fun H0 σ H z b s R qq => hi_enum s b hb1 (s.varR (by decide) rfl) R qq) (fun i hi H0 σ G z v b hy s C hc => by
      obtain ⟨Ta, x, rfl, hT, hx⟩ := hy
      obtain ⟨cs, hcs⟩ : ∃ cs, css[i]? = some cs := ⟨css[i]'(by omega), List.getElem?_eq_getElem (by omega)⟩
      obtain ⟨L, ws, g1, g2, g3⟩ := hb3 i cs hcs
      rw [hx] at g1
      cases g1
      obtain ⟨pk, hpk⟩ : ∃ pk, ps[i]? = some pk := ⟨ps[i]'(by omega), List.getElem?_eq_getElem (by omega)⟩
      have hlc : (lensL css)[i]? = some cs.length := by unfold lensL; rw [List.getElem?_map, hcs]; rfl
      have hpk' : (ps.map natD)[i]? = some (natD pk) := by rw [List.getElem?_map, hpk]; rfl
      have hat : atI (ps.map natD) (i : Int) = some (natD pk) := by
        have hb := (List.getElem?_eq_some_iff.mp hpk').1
        show (ixN (ps.map natD).length (i : Int)).bind (fun j => (ps.map natD)[j]?) = _
        unfold ixN
        rw [if_pos (by omega), if_pos (by omega), Int.toNat_natCast]
        exact hpk'
      refine ps_pair (r1 := .d (natD i)) (r2 := .g (refS L)) s hT (by decide) (by decide) ⟨.int _, fun z => by cases z⟩ ⟨fun _ _ => rfl, fun z => by cases z⟩ (fun xs z => by cases z) (fun xs z => by cases z) fun s2 dif => hc _ _ s2 dif ?_
      have tst : SemPT B 0 K [potG.par, .g (refS rv), .l (ps.map natD), s3, s4, s5, .d (natD i), .g (refS L)] (tTest (tOp (rI0 fun i j => .bl (decide (i < j))) (tOp (rIxL K) (tVar 2) (tVar 6)) (tCB (rLn K) (tCons (tVar 7) tNil)))) (fun b => b = decide (pk < cs.length)) := sempt_B (P := fun r => r = .d (.bool (decide (pk < cs.length)))) (semp_op (P1 := fun r => r = .d (natD pk)) (P3 := fun r => r = .d (.int (cs.length : Int))) (semp_op (semp_var (xs := ps.map natD) (by decide) (.inl rfl)) (semp_varD (x := natD i) (by decide) rfl) fun r1 r2 e1 e2 => ⟨_, rfl, fun xs z => (by cases z), by subst e1 e2; exact rvd_ixL hat⟩) (semp_cbB (sempa_cons (semp_varG (R := refS L) (by decide) rfl) sempa_nil) fun rs ⟨r, rs', e1, e2, e⟩ => ⟨_, rfl, fun xs z => (by cases z), by subst e1 e2 e; have := cvb_lenR (K := K) g2; rw [g3.length, List.length_map] at this; exact this⟩) fun r1 r2 e1 e2 => ⟨_, rfl, fun xs z => (by cases z), by subst e1 e2; have := rvd_lt (K := K) (i := (pk : Int)) (j := (cs.length : Int)); rw [show decide ((pk : Int) < (cs.length : Int)) = decide (pk < cs.length) by simp] at this; exact this⟩) fun r e => ⟨_, e, rfl⟩
      show (∃ y, (if ps[i]?.getD 0 < (lensL css)[i]?.getD 0 then some (natD i) else none) = some y ∧ _) ∨ _
      rw [hpk, hlc]
      by_cases hlt : pk < cs.length
      · refine .inl ⟨natD i, if_pos hlt, ?_, semp_varD (x := natD i) (by decide) rfl⟩
        rw [decide_eq_true hlt] at tst
        exact tst
      · refine .inr ⟨if_neg hlt, ?_⟩
        rw [decide_eq_false hlt] at tst
        exact tst)
  rw [hb2] at this
  exact this
theorem w_law_mix (T : Tx K mg) : Df P w K mg base CX0 2 "_law_mix" p_law_mix (spMix K) := by
  have g__law_draw := w_law_draw (P := P) (w := w) (base := base) T
  obtain ⟨f, fd, F, hm⟩ := T.f_law_mix
  refine ⟨f, fd, ?_, hm, F.kp, F.bindsN fun _ _ _ _ _ _ us hl => match us, hl with | [_, _], _ => rfl⟩
  refine F.ok sc_law_mix (fun vs H Q E h => ?_) (fun cdv A outer sh H vs Q E hr h => ?_)
  · obtain ⟨z, rv, css, rfl, _⟩ := h
    rfl
  obtain ⟨z, rv, css, rfl, hz, hrows, hl, hcs4, q⟩ := h
  suffices hs : ∃ t, PSs (cxOf CX0 P w K mg base n_law_mix "_law_mix" (defScope s_law_mix) f cdv A outer sh H E).nox (defBody s_law_mix) t ∧ BP (delH z H) 0 K (slots n_law_mix [potG, .g (refS rv)]) t (fun r => ∃ od, r = .l (od.map odD) ∧ Ord css (lensL css) od) (fun _ => False) by
    obtain ⟨t, d, bp⟩ := hs
    refine ⟨t, PSs.nox d, ?_⟩
    refine bp (delH z H) z _ (Same.refl _) ⟨fun v G r hr sm pz a => ?_, fun _ _ _ hn _ => hn.elim⟩ _ H (ps_start (ws := [.ref rv]) (rs := [.g (refS rv)]) ⟨⟨fun _ _ => rfl, fun e => by cases e⟩, trivial⟩ hz (by decide))
    obtain ⟨od, rfl, ho⟩ := hr
    exact q v G od ho (sz_back hz sm pz) pz (resz_back a)
  refine ⟨_, (pss_cons (ps_set (i := 2) sc_law_mix.nd rfl (Or.inr rfl) (pe_lc (own := [("_law_row", 7)]) (g := (gName 7)) (tt := tYes) rfl sc_law_mix.nd (pi_list (pv 1)) (blkOk_by (own := [("_law_row", 7)]) (N := n_law_mix) (sc := defScope s_law_mix) (by decide +kernel)) (fun _ _ _ _ _ => (pg_name (i := 7) sc_law_mix.nd rfl (Or.inl rfl))) (fun _ _ _ _ _ => pts_nil) (fun _ _ _ _ _ => pe_int)))
    (pss_cons (ps_set (i := 3) sc_law_mix.nd rfl (Or.inl rfl) (pe_lst pa_nil))
    (pss_cons (ps_for PassesOwn.never rfl (pi_range1 rfl T.b_range (pa_cons (pe_callB (cr_sum rfl) rfl T.b_sum (by decide +kernel) (pa_cons (pe_lc (own := [("_law_row", 7)]) (g := (gName 7)) (tt := tYes) rfl sc_law_mix.nd (pi_list (pv 1)) (blkOk_by (own := [("_law_row", 7)]) (N := n_law_mix) (sc := defScope s_law_mix) (by decide +kernel)) (fun _ _ _ _ _ => (pg_name (i := 7) sc_law_mix.nd rfl (Or.inl rfl))) (fun _ _ _ _ _ => pts_nil) (fun _ _ _ _ _ => (pe_callB (call_lenK (K := K) rfl) rfl T.b_len (by decide +kernel) (pa_cons (pv 7) pa_nil)))) pa_nil)) pa_nil)) (pg_name (i := 4) sc_law_mix.nd rfl (Or.inl rfl)) (pss_cons (ps_setLc (i := 5) (own := [("_law_at", 6), ("_law_row", 7)]) (g := (gTup K 2 (gCons (gName 6) (gCons (gName 7) gNil)))) rfl sc_law_mix.nd rfl rfl (sw_true rfl rfl rfl (by decide +kernel)) (pi_enum rfl T.b_enumerate (pa_cons (pv 1) pa_nil)) (blkOk_by (own := [("_law_at", 6), ("_law_row", 7)]) (N := n_law_mix) (sc := defScope s_law_mix) (by decide +kernel)) (fun _ _ _ _ _ => (pg_tup rfl (pgs_cons (pg_name (i := 6) sc_law_mix.nd rfl (Or.inl rfl)) (pgs_cons (pg_name (i := 7) sc_law_mix.nd rfl (Or.inl rfl)) pgs_nil)))) (fun _ _ _ _ _ => (pts_one (pt_cmpR op_lt (pe_ix (ix_listK (K := K)) (pv 2) (pv 6) (fun _ _ => rfl)) (pe_callB (call_lenK (K := K) rfl) rfl T.b_len (by decide +kernel) (pa_cons (pv 7) pa_nil)) (nomark _)))) (fun _ _ _ _ _ => (pv 6)))
    (pss_cons (ps_set (i := 6) sc_law_mix.nd rfl (Or.inl rfl) (pe_ix ix_list (pv 5) (pe_df g__law_draw hr (by omega) pass0 rfl (pa_cons (pv 0) (pa_cons (pe_callB call_len_seq rfl T.b_len (by decide +kernel) (pa_cons (pv 5) pa_nil)) pa_nil))) (fun _ _ => rfl)))
    (pss_cons (ps_expr (pe_bm PySem.F.plainAttrs_list PySem.F.slot_list_append PySem.F.type_list_append mt_append (pv 3) (pa_cons (pe_tup (pa_cons (pv 6) (pa_cons (pe_ix ix_list (pe_ix ix_list (pv 1) (pv 6) (fun _ _ => rfl)) (pe_ix ix_list (pv 2) (pv 6) (fun _ _ => rfl)) (fun _ _ => rfl)) pa_nil))) pa_nil)))
    (pss_one (ps_asg (pe_op op_add (pe_ix ix_list (pv 2) (pv 6) (fun _ _ => rfl)) pe_int) (pg_sub (pv 2) (pv 6) set_list)))))))
    (pss_one (ps_ret (pv 3)))))), ?_⟩
  have hsum := len4 hcs4
  generalize delH z H = B at hrows ⊢
  obtain ⟨rvs, hb1, hb2, hb3⟩ := id hrows
  refine bp_seq (nx1 := fun Γ1 => Γ1 = [potG.par, .g (refS rv), .l ((css.map fun _ => 0).map natD), .un, .un, .un, .un, .un]) (bp_set (P := fun r => r = .l ((List.range css.length).map fun _ => natD 0)) (semp_lcRows (f := fun _ => natD 0) hrows rfl (by decide) (by decide) (by decide) (by omega) fun k cs L ws _ _ _ => semp_d fun _ _ _ => sem_int) (by decide) fun r e => by
    subst e
    rw [range_map css (fun _ => natD 0) _ fun _ _ _ => rfl, List.map_map]
    rfl) ?_
  rintro Γ1 rfl
  refine bp_seq (nx1 := fun Γ1 => Γ1 = [potG.par, .g (refS rv), .l ((css.map fun _ => 0).map natD), .l [], .un, .un, .un, .un]) (bp_set (P := fun r => r = .l []) (semp_l fun _ _ _ => sem_lst (ds := []) sema_nil (by decide)) (by decide) fun r e => by subst e; rfl) ?_
  rintro Γ1 rfl
  have inv0 : ∃ ps od, ∃ s4 s5 s6 s7 : Sl, [potG.par, .g (refS rv), .l ((css.map fun _ => 0).map natD), .l [], .un, .un, .un, .un] = [potG.par, .g (refS rv), .l (ps.map natD), .l (od.map odD), s4, s5, s6, s7] ∧ Ord css ps od ∧ od.length = 0 := ⟨_, [], _, _, _, _, rfl, .nil, rfl⟩
  refine bp_seq (nx1 := fun Γ1 => ∃ od, ∃ s2 s4 s5 s6 s7 : Sl, Γ1 = [potG.par, .g (refS rv), s2, .l (od.map odD), s4, s5, s6, s7] ∧ Ord css (lensL css) od) (bp_forRange (N := fun n => n = (lensL css).sum) (Inv := fun n k Γ1 => ∃ ps od, ∃ s4 s5 s6 s7 : Sl, Γ1 = [potG.par, .g (refS rv), .l (ps.map natD), .l (od.map odD), s4, s5, s6, s7] ∧ Ord css ps od ∧ od.length = k)
    (P := fun r => r = .d (.int ((lensL css).sum : Int))) (mix_total hrows (by omega)) (fun r e => ⟨_, e, by omega, rfl⟩) (by decide) (fun n _ => inv0) (fun n k Γ2 hn hk inv => ?_) (fun n Γ2 hn ⟨ps, od, s4, s5, s6, s7, e, ho, hlen⟩ => ?_)) ?_
  · obtain ⟨ps, od, s4, s5, s6, s7, rfl, ho, hlen⟩ := inv
    have hpl := ho.len
    refine bp_seq (nx1 := fun Γ1 => Γ1 = [potG.par, .g (refS rv), .l (ps.map natD), .l (od.map odD), .d (.int (k : Nat)), .l (freeL css ps), s6, s7]) (bp_set (P := fun r => r = .l (freeL css ps)) (mix_free hrows (by omega) hpl) (by decide) fun r e => by subst e; rfl) ?_
    rintro Γ3 rfl
    have hfree : (freeL css ps).length ≤ 4 := by
      unfold freeL
      refine Nat.le_trans (List.length_filterMap_le _ _) ?_
      rw [List.length_range]
      exact hl
    have hne : 0 < (freeL css ps).length := by
      obtain ⟨i, k2, cs, h1, h2, h3⟩ := ho.room (by omega)
      refine List.length_pos_of_mem (a := natD i) ?_
      unfold freeL
      refine List.mem_filterMap.mpr ⟨i, List.mem_range.mpr (List.getElem?_eq_some_iff.mp h2).1, ?_⟩
      rw [h1, show (lensL css)[i]? = some cs.length by unfold lensL; rw [List.getElem?_map, h2]; rfl]
      exact if_pos h3
    refine bp_setV (C := fun x => ∃ (i k2 : Nat) (cs : List (List Nat)), x = natD i ∧ ps[i]? = some k2 ∧ css[i]? = some cs ∧ k2 < cs.length) (semp_ixV (n := (freeL css ps).length) (semp_varL (by decide) rfl rfl fun x hx => ?_) (semp_draw (m := ((freeL css ps).length : Int)) (by omega) (by omega) (semp_dI (fun _ _ _ => sem_cb (sema_cons (sem_varL rfl) sema_nil) (cvd_lenL' rfl)) rfl))) (by decide) fun x hx => ?_
    · unfold freeL at hx
      obtain ⟨i, hi, e⟩ := List.mem_filterMap.mp hx
      have hi := List.mem_range.mp hi
      rw [List.getElem?_eq_getElem (by omega : i < ps.length)] at e
      rw [show (lensL css)[i]? = some (css[i].length) by unfold lensL; rw [List.getElem?_map, List.getElem?_eq_getElem hi]; rfl] at e
      simp only [Option.getD_some] at e
      split at e
      · rename_i hlt
        cases e
        exact ⟨i, _, _, rfl, List.getElem?_eq_getElem (by omega), List.getElem?_eq_getElem hi, hlt⟩
      · cases e
    · obtain ⟨i, k2, cs, rfl, h1, h2, h3⟩ := hx
      obtain ⟨L, ws, g1, g2, g3⟩ := hb3 i cs h2
      obtain ⟨c, hc⟩ : ∃ c, cs[k2]? = some c := ⟨_, List.getElem?_eq_getElem h3⟩
      have hpk : (ps.map natD)[i]? = some (natD k2) := by rw [List.getElem?_map, h1]; rfl
      have atp : ∀ {ds : List PyData} {x : PyData} {i : Nat}, ds[i]? = some x → atI ds (i : Int) = some x := fun {ds x i} h => by
        have hb := (List.getElem?_eq_some_iff.mp h).1
        show (ixN ds.length (i : Int)).bind (fun j => ds[j]?) = _
        unfold ixN
        rw [if_pos (by omega), if_pos (by omega), Int.toNat_natCast]
        exact h
      refine bp_seq (nx1 := fun Γ1 => Γ1 = [potG.par, .g (refS rv), .l (ps.map natD), .l ((od ++ [(i, c)]).map odD), .d (.int (k : Nat)), .l (freeL css ps), .d (natD i), s7]) (bp_append (P := fun r => r = .d (odD (i, c))) (i := 3) (xs := od.map odD) rfl (by decide) ?_ (by rw [List.length_map]; omega) fun r e => ⟨_, e, by rw [List.map_append]; rfl⟩) ?_
      · refine semp_tup (PA1 := fun rs => rs = [.d (natD i), .d (adD c)]) ((sempa_cons (semp_varD (x := natD i) (by decide) rfl) (sempa_cons (semp_opB (P := fun r => r = .d (adD c)) (P1 := fun r => r = .g (refS L)) (semp_opB (P := fun r => r = .g (refS L)) (semp_varG (R := refS rv) (by decide) rfl) (semp_varD (x := natD i) (by decide) rfl) fun r1 r2 e1 e2 => ⟨_, rfl, fun xs z => (by cases z), by subst e1 e2; exact rvb_ixR hb1 g1⟩) (semp_op (P := fun r => r = .d (natD k2)) (semp_var (xs := ps.map natD) (by decide) (.inl rfl)) (semp_varD (x := natD i) (by decide) rfl) fun r1 r2 e1 e2 => ⟨_, rfl, fun xs z => (by cases z), by subst e1 e2; exact rvd_ixL (atp hpk)⟩) fun r1 r2 e1 e2 => ⟨_, rfl, fun xs z => (by cases z), by subst e1 e2; exact rvb_ixD g2 g3 (by rw [List.getElem?_map, hc]; rfl)⟩) sempa_nil)).mono fun rs h => ?_) fun rs e => ⟨[natD i, adD c], e, by simp, rfl⟩
        obtain ⟨r, rs', e1, ⟨r2, rs2, e2, e3, e4⟩, e⟩ := h
        rw [e, e1, e4, e2, e3]
      · rintro Γ3 rfl
        refine bp_setItem (i := 2) (k := i) (x := natD (k2 + 1)) (xs := ps.map natD) rfl (by decide) (semp_varD (x := natD i) (by decide) rfl) (semp_op (P1 := fun r => r = .d (natD k2)) (P3 := fun r => r = .d (.int 1)) (semp_op (P := fun r => r = .d (natD k2)) (semp_var (xs := ps.map natD) (by decide) (.inl rfl)) (semp_varD (x := natD i) (by decide) rfl) fun r1 r2 e1 e2 => ⟨_, rfl, fun xs z => (by cases z), by subst e1 e2; exact rvd_ixL (atp hpk)⟩) (semp_d fun _ _ _ => sem_int) fun r1 r2 e1 e2 => ⟨_, rfl, fun xs z => (by cases z), by subst e1 e2; exact rvd_add⟩) (by rw [List.length_map]; exact (List.getElem?_eq_some_iff.mp h1).1) ⟨ps.set i (k2 + 1), od ++ [(i, c)], _, _, _, _, by rw [List.map_set]; rfl, .snoc ho h2 h1 hc, by rw [List.length_append, List.length_singleton, hlen]⟩
  · have e2 := ho.full (by omega)
    subst e2
    exact ⟨od, _, _, _, _, _, e, ho⟩
  · rintro Γ1 ⟨od, s2, s4, s5, s6, s7, rfl, ho⟩
    exact bp_retL (i := 3) rfl (by decide) ⟨od, rfl, ho⟩
end
end RP
end
section
set_option autoImplicit false
set_option maxHeartbeats 4000000
namespace RP
open PySem PySem.Spec PyProof.Rows L2
/-! ### what a keeper goes through: some jobs are admitted, then choices are granted -/
structure Tr (ns : List Str) (js : List Job) (od : List (Nat × List Nat)) (tr : Nat → JD) : Prop where
  len : ns.length = js.length
  l4 : ns.length ≤ 4
  lo : od.length ≤ 100
  zero : tr 0 = []
  adm : ∀ i n j, ns[i]? = some n → js[i]? = some j → tr (i + 1) = jput (tr i) n (j, 0) ∧ jget (tr i) n = none ∧ NmOk n ∧ Held 4 j
  gr : ∀ t a c, od[t]? = some (a, c) → ∃ n k j u v, ns[a]? = some n ∧ NmOk n ∧ jget (tr (ns.length + t)) n = some (j, u) ∧ c ∈ j.choices ∧ j.Ch c v ∧ Held k j ∧ tr (ns.length + t + 1) = jput (tr (ns.length + t)) n ((j.left c).tidy, u + v) ∧ jget (tr (ns.length + t + 1)) n = some ((j.left c).tidy, u + v)
  ok : ∀ i, i ≤ ns.length + od.length → JOk (tr i)
  pos : ∀ i, i ≤ ns.length + od.length → usageD (tr i) ≤ needD (tr i)
def topT (tr : Nat → JD) : Nat → Int
  | 0 => 0
  | i + 1 => imax (topT tr i) (needD (tr (i + 1)))
def okT (lim : Int) (tr : Nat → JD) (n : Nat) : Prop := ∀ k, 1 ≤ k → k ≤ n → needD (tr k) ≤ lim
theorem okT.next {lim : Int} {tr : Nat → JD} {n : Nat} (h : okT lim tr n) (e : needD (tr (n + 1)) ≤ lim) : okT lim tr (n + 1) := fun k h1 h2 => by
  rcases Nat.lt_or_ge n k with z | z
  · have : k = n + 1 := by omega
    rw [this]
    exact e
  · exact h k h1 z
def LedR (K : PySem.W.Frag) (lim : Int) (D : JD) (n : Nat) (top : Int) (H : Hp) (v : V) : Prop := ∃ t a, v = .ref t ∧ H t = some (.tup [.ref a, .int top]) ∧ KpAt K ⟨lim, D, n⟩ H (.ref a)
theorem ledR_nl {K : PySem.W.Frag} {lim : Int} {D : JD} {m : Nat} {top : Int} {H H' : Hp} {v : V} (n : NL H H') (h : LedR K lim D m top H v) : LedR K lim D m top H' v := by
  obtain ⟨t, a, e, h1, h2⟩ := h
  exact ⟨t, a, e, n _ _ (by intro xs z; cases z) h1, kpAt_nl n h2⟩
def pr_led (K : PySem.W.Frag) : List Rk → Rk → Prop := fun rs r => ∃ lim ns js od tr, rs = [.d (.int lim), .s (ns.map PyData.str), .s (js.map Job.data), .s (od.map odD)] ∧ limOk lim ∧ Tr ns js od tr ∧
  ((okT lim tr (ns.length + od.length) ∧ r = .g (LedR K lim (tr (ns.length + od.length)) (ns.length + od.length) (topT tr (ns.length + od.length)))) ∨ (¬ okT lim tr (ns.length + od.length) ∧ r = .d .none))
theorem dtl_two {K : PySem.W.Frag} {H : Hp} {xs : List V} {a b : PyData} (h : DtL K H xs [a, b]) : ∃ x y, xs = [x, y] ∧ Dt K H x a ∧ Dt K H y b := by
  cases h with
  | cons h1 t =>
    cases t with
    | cons h2 t =>
      cases t
      exact ⟨_, _, rfl, h1, h2⟩
def ledTry : List Stmt := match defBody s_law_led with
  | [_, .Try b _ _ _ _, _] => b
  | _ => []
def ledFor1 : Stmt := ledTry[0]!
def ledFor2 : Stmt := ledTry[1]!
theorem ledTry_eq : ledTry = [ledFor1, ledFor2] := rfl
abbrev rMx : List V → Hp → VK → Prop := fun xs H Q => ∃ i j, xs = [V.int i, .int j] ∧ Q (.int (if j > i then j else i)) H
def ledT1 (K : PySem.W.Frag) (W : WX) : TS := tFor (iZip K (tCons (tVar 1) (tCons (tVar 2) tNil))) (gTup K 2 (gCons (gName 6) (gCons (gName 7) gNil)))
  (tSeq (tDrop (tMeth (He.ga K "Keeper") "admit" (spAdmit K) [] (fun cls d H => ∀ σ, W cls d σ H) (tVar 4) (tCons (tVar 6) (tCons (tVar 7) tNil))))
    (tAsg (tCB rMx (tCons (tVar 5) (tCons (tMeth (He.ga K "Keeper") "need" (spF K (pr_k_need (K := K))) [] E0 (tVar 4) tNil) tNil))) (gName 5)))
def ledT2 (K : PySem.W.Frag) (W : WX) : TS := tFor (iList K (tVar 3)) (gTup K 2 (gCons (gName 8) (gCons (gName 9) gNil)))
  (tSeq (tDrop (tMeth (He.ga K "Keeper") "grant" (spGrant K) [] (fun cls d H => ∀ σ, W cls d σ H) (tVar 4) (tCons (tOp (rIxL K) (tVar 1) (tVar 8)) (tCons (tVar 9) tNil))))
    (tSeq (tAsg (tMeth (He.ga K "Keeper") "need" (spF K (pr_k_need (K := K))) [] E0 (tVar 4) tNil) (gName 10))
    (tSeq (tAsg (tCB rMx (tCons (tVar 5) (tCons (tVar 10) tNil))) (gName 5))
      (tIfS (tTest (tOp (rI0 fun i j => .bl (decide (i < j))) (tVar 10) (tMeth (He.ga K "Keeper") "usage" (spF K (pr_k_usage (K := K))) [] E0 (tVar 4) tNil))) (tRet (tC .non)) tNext))))
section
variable {P : Program} {w : World} {K : PySem.W.Frag} {mg : Str → Option Value} {base : Heap}
abbrev ledX (P : Program) (w : World) (K : PySem.W.Frag) (mg : Str → Option Value) (base : Heap) (f : Addr) (cdv : Value) (A : Around) (outer : List Env) (sh : Shared) (H : Hp) (E : XK) : Cx := (cxOf CX0 P w K mg base n_law_led "_law_led" (defScope s_law_led) f cdv A outer sh H E).nox
theorem led_for1 (T : Tk K mg) {f : Addr} {cdv : Value} {A : Around} {outer : List Env} {sh : Shared} {H : Hp} {E : XK} (hr : Room 34 (A.deeper (envOfC "_law_led" (defScope s_law_led) sh.heap.objs.size f cdv))) {W : WX} {pn : List (Addr × Obj)} {xe : Value → Shared → Prop}
    (tk : Takes ((ledX P w K mg base f cdv A outer sh H E).tr pn xe) W) (po : PassesOwn (model P w) (ledX P w K mg base f cdv A outer sh H E).A (ledX P w K mg base f cdv A outer sh H E).env xe) : L2.PS ((ledX P w K mg base f cdv A outer sh H E).tr pn xe) ledFor1 (ledT1 K W) := by
  have g_admit := w_k_admit (P := P) (w := w) (base := base) T
  have g_need := w_k_need (P := P) (w := w) (base := base) T
  refine ps_for po rfl ?_ ?_ ?_
  · exact pi_zip rfl T.b_zip (pa_cons (pv 1) (pa_cons (pv 2) pa_nil))
  · exact pg_tup rfl (pgs_cons (pg_name (i := 6) sc_law_led.nd rfl (Or.inl rfl)) (pgs_cons (pg_name (i := 7) sc_law_led.nd rfl (Or.inl rfl)) pgs_nil))
  · refine pss_cons (ps_expr ?_) (pss_one (ps_set (i := 5) sc_law_led.nd rfl (Or.inl rfl) ?_))
    · exact pe_dfm (E := fun cls d H => ∀ σ, W cls d σ H) (pv 4) g_admit hr (by omega) (passes_call tk fun _ _ σ _ h => h σ) (pa_cons (pv 6) (pa_cons (pv 7) pa_nil))
    · exact pe_callB (call_max2 rfl) rfl T.b_max (by decide +kernel) (pa_cons (pv 5) (pa_cons (pe_dfm0 (E := E0) (pv 4) g_need hr (by omega) pass0) pa_nil))
theorem led_for2 (T : Tk K mg) {f : Addr} {cdv : Value} {A : Around} {outer : List Env} {sh : Shared} {H : Hp} {E : XK} (hr : Room 34 (A.deeper (envOfC "_law_led" (defScope s_law_led) sh.heap.objs.size f cdv))) {W : WX} {pn : List (Addr × Obj)} {xe : Value → Shared → Prop}
    (tk : Takes ((ledX P w K mg base f cdv A outer sh H E).tr pn xe) W) (po : PassesOwn (model P w) (ledX P w K mg base f cdv A outer sh H E).A (ledX P w K mg base f cdv A outer sh H E).env xe) : L2.PS ((ledX P w K mg base f cdv A outer sh H E).tr pn xe) ledFor2 (ledT2 K W) := by
  have g_grant := w_k_grant (P := P) (w := w) (base := base) T
  have g_need := w_k_need (P := P) (w := w) (base := base) T
  have g_usage := w_k_usage (P := P) (w := w) (base := base) T
  refine ps_for po rfl ?_ ?_ ?_
  · exact pi_list (pv 3)
  · exact pg_tup rfl (pgs_cons (pg_name (i := 8) sc_law_led.nd rfl (Or.inl rfl)) (pgs_cons (pg_name (i := 9) sc_law_led.nd rfl (Or.inl rfl)) pgs_nil))
  · refine pss_cons (ps_expr ?_) (pss_cons (ps_set (i := 10) sc_law_led.nd rfl (Or.inl rfl) ?_) (pss_cons (ps_set (i := 5) sc_law_led.nd rfl (Or.inl rfl) ?_) (pss_one (ps_if ?_ (pss_one (ps_ret ?_)) pss_nil))))
    · refine pe_dfm (E := fun cls d H => ∀ σ, W cls d σ H) (pv 4) g_grant hr (by omega) (passes_call tk fun _ _ σ _ h => h σ) (pa_cons ?_ (pa_cons (pv 9) pa_nil))
      exact pe_ix ix_list (pv 1) (pv 8) (fun _ _ => rfl)
    · exact pe_dfm0 (E := E0) (pv 4) g_need hr (by omega) pass0
    · exact pe_callB (call_max2 rfl) rfl T.b_max (by decide +kernel) (pa_cons (pv 5) (pa_cons (pv 10) pa_nil))
    · exact pt_cmpR op_lt (pv 10) (pe_dfm0 (E := E0) (pv 4) g_usage hr (by omega) pass0) (nomark _)
    · exact pe_non
theorem w_law_led (T : Tk K mg) : Df P w K mg base CX0 35 "_law_led" p_law_led (spF K (pr_led K)) := by
  have g_admit := w_k_admit (P := P) (w := w) (base := base) T
  have g_grant := w_k_grant (P := P) (w := w) (base := base) T
  have g_need := w_k_need (P := P) (w := w) (base := base) T
  have g_usage := w_k_usage (P := P) (w := w) (base := base) T
  obtain ⟨fI, fdI, hF, hM, hB⟩ := w_k_init (P := P) (w := w) (base := base) T
  obtain ⟨f, fd, F, hm⟩ := T.f_law_led
  refine ⟨f, fd, ?_, hm, F.kp, F.bindsN fun _ _ _ _ _ _ us hl => match us, hl with | [_, _, _, _], _ => rfl⟩
  refine F.ok (k := 34) sc_law_led (fun vs H Q E h => ?_) (fun cdv A outer sh H vs Q E hr h => ?_)
  · obtain ⟨rs, r, ⟨lim, ns, js, od, tr, rfl, _⟩, ag, _⟩ := h
    rw [ag.length]
    rfl
  suffices hs : ∃ t, PSs (cxOf CX0 P w K mg base n_law_led "_law_led" (defScope s_law_led) f cdv A outer sh H E).nox (defBody s_law_led) t ∧ ∀ D : Ends, D.rt = Q → t D (L2.start n_law_led vs) H by
    obtain ⟨t, d, ht⟩ := hs
    exact ⟨t, PSs.nox d, ht _ rfl⟩
  refine ⟨_, (pss_cons (ps_par (i := 4) (j := 5) rfl sc_law_led.nd rfl rfl (by decide) rfl rfl (pa_cons (pe_make hM hF (hr.mono (by omega)) rfl T.kp_g hB .nil pass0 (pa_cons (pv 0) pa_nil)) (pa_cons pe_int pa_nil)) (by rfl))
    (pss_cons (ps_try_only (tb := fun W => tSeq (ledT1 K W) (ledT2 K W)) rfl rfl ⟨rfl, by decide, .inl T.ne_g⟩ takes0 (fun W pn xe tk po => pss_cons (led_for1 T hr tk po) (pss_one (led_for2 T hr tk po)))
       (fun a oe cls d pn _ _ => pss_one (ps_ret pe_non)))
    (pss_one (ps_ret (pe_tup (pa_cons (pv 4) (pa_cons (pv 5) pa_nil))))))), ?_⟩
  obtain ⟨rs, r, ⟨lim, ns, js, od, tr, rfl, hlim, tok, hres⟩, ag, q⟩ := h
  match vs, ag with
  | [v0, v1, v2, v3], ⟨a0, ⟨nA, vs1, e1, hn, dn⟩, ⟨jA, jvs, e2, hj, dj⟩, ⟨oA, ovs, e3, ho, dO⟩, _⟩ =>
  have e0 := Dt.isInt a0
  subst e0 e1 e2 e3
  have en := strs_flat dn
  subst en
  rintro D rfl
  have fin : ∀ G, Same H G → ¬ okT lim tr (ns.length + od.length) → D.rt .non G := fun G s hno => by
    rcases hres with ⟨ho, _⟩ | ⟨_, rfl⟩
    · exact absurd ho hno
    · exact q .non G s .non
  have l4 := tok.l4
  have lo := tok.lo
  have lj : jvs.length = js.length := by rw [dj.length, List.length_map]
  have w1 : L2.Walk (Itz K nA jA) ns.length (fun G => Same H G) (YPair (fun i => (ns.map V.str)[i]?) (fun i => jvs[i]?)) := (walk_zip (by rw [List.length_map, lj, tok.len, Nat.min_self])).mono (fun G s => ⟨SqL.of (s _ _ hn), SqL.of (s _ _ hj)⟩) fun _ _ _ _ _ _ y => y
  have w2 : L2.Walk (Itl K oA) od.length (fun G => Same H G) (YAt ovs) := by
    have w := (walk_list (K := K) (a := oA) (xs := ovs)).mono (G' := fun G => Same H G) (fun G s => SqL.of (s _ _ ho)) fun _ _ _ _ _ _ y => y
    rw [dO.length, List.length_map] at w
    exact w
  refine ⟨_, rfl, fun x dx hx hdx hne => ⟨H, x, dx, lim, rfl, fun b o hb => ?_, hx, upd_same, hlim, fun H1 s1 kp => ⟨rfl, _, _, rfl, ?_⟩⟩⟩
  · rw [upd_ne (ne_of_none hb hx), upd_ne (ne_of_none hb hdx)]
    exact hb
  refine ⟨_, rfl, _, rfl, nA, jA, _, jvs, rfl, SqL.of (s1 _ _ hn), SqL.of (s1 _ _ hj), ?_⟩
  refine for_it w1 (fun i σ G => ∃ x6 x7, σ = [some (.int lim), some (.ref nA), some (.ref jA), some (.ref oA), some (.ref x), some (.int (topT tr i)), x6, x7, none, none, none] ∧ Same H G ∧ KpO K H ⟨lim, tr i, i⟩ G x ∧ okT lim tr i) ⟨none, none, rfl, s1, by rw [tok.zero]; exact kp, fun k h1 h2 => absurd h1 (by omega)⟩ (fun i σ G _ ⟨_, _, _, s, _⟩ => s) (fun i y σ G G' hi p yy => ?_) (fun σ G p => ?_)
  · obtain ⟨x6, x7, rfl, s2, kp2, ok2⟩ := p
    obtain ⟨T', nm, jv, rfl, hT, rfl, en, ej⟩ := yy
    replace en : (ns.map V.str)[i]? = some nm := en
    replace ej : jvs[i]? = some jv := ej
    rw [List.getElem?_map] at en
    obtain ⟨n, hn', rfl⟩ := Option.map_eq_some_iff.mp en
    obtain ⟨jd, hjd, hdt⟩ := dj.at ej
    rw [List.getElem?_map] at hjd
    obtain ⟨j, hj', rfl⟩ := Option.map_eq_some_iff.mp hjd
    obtain ⟨t1, t2, t3, t4⟩ := tok.adm i n j hn' hj'
    have sT : Same G (upd G T' (.tup [.str n, jv])) := same_new hT
    have s3 := s2.trans sT
    have kp3 := kp2.mono sT
    obtain ⟨kdx, kv, kr, ke, krs, kes, k1, _⟩ := kp3.ex
    have ok3 := tok.ok (i + 1) (by omega)
    refine ⟨T', _, rfl, .inl (.inl upd_same), rfl, _, _, rfl, _, _, rfl, rfl, ?_⟩
    refine ⟨_, rfl, x, kdx, _, rfl, k1, kFs_none (by decide), _, rfl, _, rfl, ?_⟩
    refine ⟨H, x, _, n, 4, j, jv, rfl, s3, kp3, Dt.keep (TK.of s3) hdt, t3, t2, t4, (by show i ≤ 900; omega), (by have := (tok.ok i (by omega)).len; show (tr i).length ≤ 10; omega), by rw [← t1]; exact ok3, fun hle G2 s4 kp4 => ?_, fun hgt d G2 s4 => ?_⟩
    · rw [← t1] at hle kp4
      have ok4 := ok2.next hle
      obtain ⟨ldx, lv, lr, le, lrs, les, l1, _⟩ := kp4.ex
      refine ⟨_, rfl, _, rfl, x, ldx, _, rfl, l1, kFs_none (by decide), [.g (KpAt K ⟨lim, tr (i + 1), i + 1⟩)], .d (.int (needD (tr (i + 1)))), ⟨_, rfl, rfl, ok3⟩, ⟨kpAt_fst kp4.at, trivial⟩, fun u G3 e3 a3 => ?_⟩
      have eu := Dt.isInt a3
      subst eu
      refine ⟨topT tr i, needD (tr (i + 1)), rfl, ?_⟩
      exact ⟨_, _, rfl, s4.trans e3, kp4.mono e3, ok4⟩
    · rw [← t1] at hgt
      exact fun σ => ⟨true, T.ne_te, fun _ b _ => fin G2 s4 fun ho => by
        have := ho (i + 1) (by omega) (by omega)
        have hgt' : lim < needD (tr (i + 1)) := hgt
        omega, fun z => by cases z⟩
  · obtain ⟨x6, x7, rfl, s2, kp2, ok2⟩ := p
    refine ⟨_, rfl, oA, rfl, ⟨ovs, SqL.of (s2 _ _ ho)⟩, ?_⟩
    refine for_it w2 (fun i σ G => ∃ x6 x7 x8 x9 x10, σ = [some (.int lim), some (.ref nA), some (.ref jA), some (.ref oA), some (.ref x), some (.int (topT tr (ns.length + i))), x6, x7, x8, x9, x10] ∧ Same H G ∧ KpO K H ⟨lim, tr (ns.length + i), ns.length + i⟩ G x ∧ okT lim tr (ns.length + i)) ⟨x6, x7, none, none, none, rfl, s2, kp2, ok2⟩ (fun i σ G _ ⟨_, _, _, _, _, _, s, _⟩ => s) (fun i y σ G G' hi p yy => ?_) (fun σ G p => ?_)
    · obtain ⟨y6, y7, y8, y9, y10, rfl, s3, kp3, ok3⟩ := p
      obtain ⟨rfl, hy⟩ := yy
      obtain ⟨d, hd, hdt⟩ := dO.at hy
      replace hd : (od.map odD)[i]? = some d := hd
      rw [List.getElem?_map] at hd
      obtain ⟨⟨at_, c⟩, hac, rfl⟩ := Option.map_eq_some_iff.mp hd
      obtain ⟨Ta, xs, rfl, hT, hl⟩ := Dt.isTup (ds := [.int (at_ : Nat), adD c]) (Dt.keep (TK.of s3) hdt)
      obtain ⟨xa, cv, rfl, h1, h2⟩ := dtl_two hl
      have e1 := Dt.isInt h1
      subst e1
      obtain ⟨n, k, j, u, v, t1, t2, t3, t4, t5, t6, t7, t8⟩ := tok.gr i at_ c hac
      obtain ⟨kdx, kv, kr, ke, krs, kes, k1, _⟩ := kp3.ex
      have okn := tok.ok (ns.length + i + 1) (by omega)
      refine ⟨Ta, _, rfl, hT.sq, rfl, _, _, rfl, _, _, rfl, rfl, ?_⟩
      refine ⟨_, rfl, x, kdx, _, rfl, k1, kFs_none (by decide), ?_⟩
      refine ⟨_, rfl, _, rfl, nA, ns.map V.str, (at_ : Int), .str n, rfl, rfl, SqL.of (s3 _ _ hn), ?_, _, rfl, ?_⟩
      · have hb := (List.getElem?_eq_some_iff.mp t1).1
        show (ixN (ns.map V.str).length (at_ : Int)).bind (fun j => (ns.map V.str)[j]?) = _
        unfold ixN
        rw [if_pos (by omega), if_pos (by rw [List.length_map]; omega), Int.toNat_natCast]
        show (ns.map V.str)[at_]? = _
        rw [List.getElem?_map, t1]
        rfl
      refine ⟨H, x, _, n, c, k, j, u, v, cv, rfl, s3, kp3, h2, t2, t3, t4, t5, t6, (by show ns.length + i ≤ 900; omega), (by have := (tok.ok (ns.length + i) (by omega)).len; show (tr (ns.length + i)).length ≤ 10; omega), by rw [← t7]; exact okn, by rw [← t7]; exact t8, fun hle G2 s4 kp4 => ?_, fun hgt d G2 s4 => ?_⟩
      · rw [← t7] at hle kp4
        have ok4 := ok3.next hle
        obtain ⟨ldx, lv, lr, le, lrs, les, l1, _⟩ := kp4.ex
        refine ⟨_, rfl, x, ldx, _, rfl, l1, kFs_none (by decide), [.g (KpAt K ⟨lim, tr (ns.length + i + 1), ns.length + i + 1⟩)], .d (.int (needD (tr (ns.length + i + 1)))), ⟨_, rfl, rfl, okn⟩, ⟨kpAt_fst kp4.at, trivial⟩, fun u2 G3 e3 a3 => ?_⟩
        have eu := Dt.isInt a3
        subst eu
        refine ⟨_, rfl, _, rfl, ?_⟩
        refine ⟨topT tr (ns.length + i), needD (tr (ns.length + i + 1)), rfl, ?_⟩
        have kp5 := kp4.mono e3
        have s5 := s4.trans e3
        obtain ⟨mdx, mv, mr, me, mrs, mes, m1, _⟩ := kp5.ex
        refine ⟨_, rfl, _, rfl, x, mdx, _, rfl, m1, kFs_none (by decide), [.g (KpAt K ⟨lim, tr (ns.length + i + 1), ns.length + i + 1⟩)], .d (.int (usageD (tr (ns.length + i + 1)))), ⟨_, rfl, rfl, by have := okn.len; show (tr (ns.length + i + 1)).length ≤ 1000; omega⟩, ⟨kpAt_fst kp5.at, trivial⟩, fun u4 G5 e5 a5 => ?_⟩
        have eu := Dt.isInt a5
        subst eu
        refine ⟨_, _, rfl, rfl, _, rfl, ?_⟩
        have hp := tok.pos (ns.length + i + 1) (by omega)
        rw [decide_eq_false (by omega)]
        exact iteF ⟨_, _, _, _, _, rfl, s5.trans e5, kp5.mono e5, ok4⟩
      · rw [← t7] at hgt
        exact fun σ => ⟨true, T.ne_te, fun _ b _ => fin G2 s4 fun ho => by
          have := ho (ns.length + i + 1) (by omega) (by omega)
          have hgt' : lim < needD (tr (ns.length + i + 1)) := hgt
          omega, fun z => by cases z⟩
    · obtain ⟨y6, y7, y8, y9, y10, rfl, s3, kp3, ok3⟩ := p
      rcases hres with ⟨_, rfl⟩ | ⟨hno, _⟩
      · refine ⟨_, rfl, _, rfl, (by show 2 ≤ sizeLine; decide), fun t ht => ?_⟩
        exact q _ _ (s3.trans (same_new ht)) fun G' n => ledR_nl n ⟨t, x, rfl, upd_same, (kp3.mono (same_new ht)).at⟩
      · exact absurd ok3 hno
end
end RP
end
section
set_option autoImplicit false
set_option maxHeartbeats 2000000
namespace RP
open PySem PySem.Spec PyProof.Rows L2
mutual
theorem ch_ab : ∀ (j : Job) (c : List Nat) (v : Int), j.Ch c v → j.Sv → Ab maxN v
  | .step i, c, v, h, g => by
    rw [Job.Ch] at h
    rw [Job.Sv] at g
    rw [h.2]
    exact g
  | .grp p js, [], v, h, g => by rw [Job.Ch] at h; exact h.elim
  | .grp p js, i :: c, v, h, g => by
    rw [Job.Ch] at h
    rw [Job.Sv] at g
    exact ch_abL p js i c v h g
  | .mul c n j, [], v, h, g => by rw [Job.Ch] at h; exact h.elim
  | .mul c n j, i :: d, v, h, g => by
    rw [Job.Ch] at h
    rw [Job.Sv] at g
    exact ch_ab j d v h.2.2 g
theorem ch_abL : ∀ (p : Bool) (js : List Job) (i : Nat) (c : List Nat) (v : Int), Job.ChL p js i c v → Job.SvL js → Ab maxN v
  | p, [], i, c, v, h, g => by rw [Job.ChL] at h; exact h.elim
  | p, j :: js, 0, c, v, h, g => by
    rw [Job.ChL] at h
    rw [Job.SvL] at g
    exact ch_ab j c v h g.1
  | p, j :: js, i + 1, c, v, h, g => by
    rw [Job.ChL] at h
    rw [Job.SvL] at g
    exact ch_abL p js i c v h.2 g.2
end
theorem need_ge (D : JD) : usageD D ≤ needD D := by
  have h : 0 ≤ (jointJ D).prof.peak := by
    unfold jointJ
    rw [Job.prof, profs_map, if_pos rfl]
    refine peak_pos fun f hf => ?_
    obtain ⟨j, _, rfl⟩ := List.mem_map.mp hf
    exact prof_ne j
  unfold needD
  omega
theorem sumI_ab {B : Nat} : ∀ {l : List Int}, (∀ x ∈ l, Ab B x) → Ab (l.length * B) l.sum
  | [], _ => by simp [Ab]
  | x :: l, h => by
    have h1 := h x List.mem_cons_self
    have h2 := sumI_ab fun y hy => h y (List.mem_cons_of_mem _ hy)
    rw [List.sum_cons, List.length_cons, Nat.add_mul, Nat.one_mul, Nat.add_comm]
    exact h1.add h2
theorem need_le {D : JD} (ok : JOk D) : needD D ≤ 1000000000000000000000000000000000000000000000000000000000000 := by
  have o := ok.ok
  have h1 := (prof_in 13 (jointJ D) (good_sv _ o.good) o.depth).peak
  have h2 : bq 13 (jointJ D) ≤ 4 ^ 13 * (4 * 1000000000000000000 * maxN) := by
    unfold bq
    exact Nat.mul_le_mul_left _ (Nat.mul_le_mul_right _ ok.steps)
  have h3 : Ab ((D.map (·.2.2)).length * (4 * maxN)) (usageD D) := sumI_ab fun x hx => by
    obtain ⟨e, he, rfl⟩ := List.mem_map.mp hx
    exact ok.use e he
  have h4 : (D.map (·.2.2)).length * (4 * maxN) ≤ 4 * (4 * maxN) := Nat.mul_le_mul_right _ (by rw [List.length_map]; exact ok.len)
  have h5 : 4 ^ 13 * (4 * 1000000000000000000 * maxN) + 4 * (4 * maxN) ≤ 1000000000000000000000000000000000000000000000000000000000000 := by decide +kernel
  have h6 := (h1.mono h2).2
  have h7 := (h3.mono h4).2
  unfold needD
  omega
theorem Run.states {j0 j : Job} {cs : List (List Nat)} {h : Int} (r : Run j0 cs j h) : ∃ S : Nat → Job × Int, S 0 = (j0, 0) ∧ S cs.length = (j, h) ∧ (∀ p, p ≤ cs.length → Run j0 (cs.take p) (S p).1 (S p).2) ∧
    ∀ p c, cs[p]? = some c → ∃ v, c ∈ (S p).1.choices ∧ (S p).1.Ch c v ∧ S (p + 1) = (((S p).1.left c).tidy, (S p).2 + v) := by
  induction r with
  | nil => exact ⟨fun _ => (j0, 0), rfl, rfl, fun p _ => by rw [List.take_nil]; exact .nil, fun p c h => by simp at h⟩
  | @snoc cs j h v c r hc hv hp ih =>
    obtain ⟨S, h0, h1, h2, h3⟩ := ih
    refine ⟨fun p => if p ≤ cs.length then S p else ((j.left c).tidy, h + v), ?_, ?_, fun p hl => ?_, fun p d hd => ?_⟩
    · dsimp only
      rw [if_pos (Nat.zero_le _)]
      exact h0
    · dsimp only
      rw [List.length_append, List.length_singleton, if_neg (by omega)]
    · dsimp only
      by_cases hpl : p ≤ cs.length
      · rw [if_pos hpl, List.take_append_of_le_length hpl]
        exact h2 p hpl
      · rw [List.length_append, List.length_singleton] at hl
        rw [if_neg hpl, List.take_of_length_le (by rw [List.length_append, List.length_singleton]; omega)]
        exact .snoc r hc hv hp
    · dsimp only
      by_cases hpl : p < cs.length
      · rw [List.getElem?_append_left hpl] at hd
        rw [if_pos (by omega), if_pos (by omega)]
        exact h3 p d hd
      · have hb := (List.getElem?_eq_some_iff.mp hd).1
        rw [List.length_append, List.length_singleton] at hb
        have e : p = cs.length := by omega
        subst e
        rw [List.getElem?_append_right (Nat.le_refl _), Nat.sub_self] at hd
        have ed : c = d := by simpa using hd
        subst ed
        rw [if_pos (Nat.le_refl _), if_neg (by omega), h1]
        exact ⟨v, hc, hv, rfl⟩
theorem Run.ab {j0 j : Job} {cs : List (List Nat)} {h : Int} (r : Run j0 cs j h) (hh : Held 4 j0) (hl : cs.length ≤ 4) : Ab (cs.length * maxN) h := by
  induction r with
  | nil => simp [Ab]
  | @snoc cs j h v c r hc hv hp ih =>
    rw [List.length_append, List.length_singleton] at hl ⊢
    have h1 := ih (by omega)
    have h2 := ch_ab j c v hv (good_sv _ (r.held hh (by omega)).good)
    rw [Nat.add_mul, Nat.one_mul]
    exact h1.add h2
theorem Ord.places {css : List (List (List Nat))} {ps : List Nat} {od : List (Nat × List Nat)} (h : Ord css ps od) : ∃ pl : Nat → List Nat, pl 0 = (css.map fun _ => 0) ∧ pl od.length = ps ∧ (∀ t, t ≤ od.length → LeL (pl t) (lensL css)) ∧
    ∀ t a c, od[t]? = some (a, c) → ∃ k cs, css[a]? = some cs ∧ (pl t)[a]? = some k ∧ cs[k]? = some c ∧ pl (t + 1) = (pl t).set a (k + 1) := by
  induction h with
  | nil => exact ⟨fun _ => css.map fun _ => 0, rfl, rfl, fun _ _ => (Ord.nil (css := css)).le.1, fun t a c h => by simp at h⟩
  | @snoc ps od a k cs c h h1 h2 h3 ih =>
    obtain ⟨pl, g0, g1, g2, g3⟩ := ih
    refine ⟨fun t => if t ≤ od.length then pl t else ps.set a (k + 1), ?_, ?_, fun t ht => ?_, fun t b d hd => ?_⟩
    · dsimp only
      rw [if_pos (Nat.zero_le _)]
      exact g0
    · dsimp only
      rw [List.length_append, List.length_singleton, if_neg (by omega)]
    · dsimp only
      by_cases hl : t ≤ od.length
      · rw [if_pos hl]
        exact g2 t hl
      · rw [if_neg hl]
        exact (Ord.snoc h h1 h2 h3).le.1
    · dsimp only
      by_cases hl : t < od.length
      · rw [List.getElem?_append_left hl] at hd
        rw [if_pos (by omega), if_pos (by omega)]
        exact g3 t b d hd
      · have hb := (List.getElem?_eq_some_iff.mp hd).1
        rw [List.length_append, List.length_singleton] at hb
        have e : t = od.length := by omega
        subst e
        rw [List.getElem?_append_right (Nat.le_refl _), Nat.sub_self] at hd
        have ed : (a, c) = (b, d) := by simpa using hd
        cases ed
        rw [if_pos (Nat.le_refl _), if_neg (by omega), g1]
        exact ⟨k, cs, h1, h2, h3, rfl⟩
/-! ### dicts by places -/
theorem nodup_ix {α : Type} {l : List α} (h : l.Nodup) {i j : Nat} {x : α} (hi : l[i]? = some x) (hj : l[j]? = some x) : i = j := by
  obtain ⟨hib, ei⟩ := List.getElem?_eq_some_iff.mp hi
  obtain ⟨hjb, ej⟩ := List.getElem?_eq_some_iff.mp hj
  have key := List.pairwise_iff_getElem.mp h
  rcases Nat.lt_trichotomy i j with z | z | z
  · exact absurd (by rw [ei, ej]) (key i j hib hjb z)
  · exact z
  · exact absurd (by rw [ei, ej]) (key j i hjb hib z)
theorem jput_at {D : JD} (nd : (D.map (·.1)).Nodup) {a : Nat} {n : Str} {y : Job × Int} (h : D[a]? = some (n, y)) (x : Job × Int) : jput D n x = D.set a (n, x) := by
  have hb := (List.getElem?_eq_some_iff.mp h).1
  have ha : (D.any fun e => decide (e.1 = n)) = true := List.any_eq_true.mpr ⟨(n, y), List.mem_of_getElem? h, by simp⟩
  unfold jput
  rw [if_pos ha]
  apply List.ext_getElem?
  intro i
  rw [List.getElem?_map, List.getElem?_set]
  by_cases e : a = i
  · subst e
    rw [if_pos rfl, if_pos hb, h]
    simp
  · rw [if_neg e]
    cases hi : D[i]? with
    | none => rfl
    | some e2 =>
      have ne : ¬ e2.1 = n := fun e3 => by
        have hib := (List.getElem?_eq_some_iff.mp hi).1
        have q1 : (D.map (·.1))[a]? = some n := by rw [List.getElem?_map, h]; rfl
        have q2 : (D.map (·.1))[i]? = some n := by rw [List.getElem?_map, hi, ← e3]; rfl
        exact e (nodup_ix nd q1 q2)
      show some (if e2.1 = n then (e2.1, x) else e2) = some e2
      rw [if_neg ne]
theorem jput_new {D : JD} {n : Str} (h : n ∉ D.map (·.1)) (x : Job × Int) : jput D n x = D ++ [(n, x)] ∧ jget D n = none := by
  have no : ∀ e ∈ D, ¬ e.1 = n := fun e he z => h (z ▸ List.mem_map_of_mem he)
  constructor
  · unfold jput
    rw [if_neg]
    intro ha
    obtain ⟨e, he, z⟩ := List.any_eq_true.mp ha
    exact no e he (of_decide_eq_true z)
  · unfold jget
    rw [List.find?_eq_none.mpr fun e he => by simpa using no e he]
    rfl
theorem JOk.take {D : JD} (h : JOk D) (i : Nat) : JOk (D.take i) := by
  obtain ⟨a, b, c, d, e⟩ := h
  refine ⟨?_, ?_, ?_, fun x hx => d x (List.mem_of_mem_take hx), fun x hx => e x (List.mem_of_mem_take hx)⟩
  · unfold sortedN at *
    rw [List.map_take]
    exact a.sublist (List.take_sublist _ _)
  · rw [List.map_take]
    exact b.sublist (List.take_sublist _ _)
  · rw [List.length_take]
    omega
def stD (ns : List Str) (S : Nat → Nat → Job × Int) (ps : List Nat) : JD := ns.mapIdx fun a n => (n, S a (ps[a]?.getD 0))
/-- what the law has drawn -/
structure Cell (ns : List Str) (js : List Job) (css : List (List (List Nat))) (S : Nat → Nat → Job × Int) : Prop where
  nl : ns.length ≤ 4
  nd : ns.Nodup
  srt : ns.Pairwise sle
  nm : ∀ n ∈ ns, NmOk n
  jl : js.length = ns.length
  held : ∀ j ∈ js, Held 4 j
  cl : css.length = ns.length
  c4 : ∀ cs ∈ css, cs.length ≤ 4
  s0 : ∀ a j, js[a]? = some j → S a 0 = (j, 0)
  run : ∀ a j cs p, js[a]? = some j → css[a]? = some cs → p ≤ cs.length → Run j (cs.take p) (S a p).1 (S a p).2
  st : ∀ a cs p c, css[a]? = some cs → cs[p]? = some c → ∃ v, c ∈ (S a p).1.choices ∧ (S a p).1.Ch c v ∧ S a (p + 1) = (((S a p).1.left c).tidy, (S a p).2 + v)
section
variable {ns : List Str} {js : List Job} {css : List (List (List Nat))} {S : Nat → Nat → Job × Int} {ps : List Nat} {od : List (Nat × List Nat)}
theorem stD_at {a : Nat} {n : Str} (h : ns[a]? = some n) : (stD ns S ps)[a]? = some (n, S a (ps[a]?.getD 0)) := by
  unfold stD
  rw [List.getElem?_mapIdx, h]
  rfl
theorem stD_keys : (stD ns S ps).map (·.1) = ns := by
  apply List.ext_getElem?
  intro i
  unfold stD
  rw [List.getElem?_map, List.getElem?_mapIdx]
  cases ns[i]? <;> rfl
theorem stD_len : (stD ns S ps).length = ns.length := List.length_mapIdx
theorem stD_set {a k : Nat} {n : Str} (h : ns[a]? = some n) (hp : a < ps.length) : stD ns S (ps.set a k) = (stD ns S ps).set a (n, S a k) := by
  apply List.ext_getElem?
  intro i
  rw [List.getElem?_set, stD_len]
  unfold stD
  rw [List.getElem?_mapIdx, List.getElem?_mapIdx]
  by_cases e : a = i
  · subst e
    rw [if_pos rfl, if_pos (List.getElem?_eq_some_iff.mp h).1, h, List.getElem?_set_self hp]
    rfl
  · rw [if_neg e, List.getElem?_set_ne e]
theorem Cell.ok (c : Cell ns js css S) (h : LeL ps (lensL css)) : JOk (stD ns S ps) := by
  have key : ∀ e ∈ stD ns S ps, ∃ a j cs p, js[a]? = some j ∧ css[a]? = some cs ∧ p ≤ cs.length ∧ e.2 = S a p := fun e he => by
    obtain ⟨a, ha⟩ := List.getElem?_of_mem he
    unfold stD at ha
    rw [List.getElem?_mapIdx] at ha
    obtain ⟨n, hn, rfl⟩ := Option.map_eq_some_iff.mp ha
    have hb := (List.getElem?_eq_some_iff.mp hn).1
    have hj : a < js.length := by rw [c.jl]; exact hb
    have hc : a < css.length := by rw [c.cl]; exact hb
    refine ⟨a, js[a], css[a], _, List.getElem?_eq_getElem hj, List.getElem?_eq_getElem hc, ?_, rfl⟩
    have : ∀ {ps ls : List Nat}, LeL ps ls → ∀ {a : Nat} {l : Nat}, ls[a]? = some l → ps[a]?.getD 0 ≤ l := by
      intro ps ls h
      induction h with
      | nil => intro a l h; simp at h
      | cons h t ih =>
        intro a l h2
        cases a with
        | zero =>
          simp at h2
          subst h2
          exact h
        | succ a => exact ih (by simpa using h2)
    exact this h (by unfold lensL; rw [List.getElem?_map, List.getElem?_eq_getElem hc]; rfl)
  refine ⟨?_, ?_, by rw [stD_len]; exact c.nl, fun e he => ?_, fun e he => ?_⟩
  · unfold sortedN
    rw [stD_keys]
    exact c.srt
  · rw [stD_keys]
    exact c.nd
  · obtain ⟨a, j, cs, p, h1, h2, h3, h4⟩ := key e he
    have r := c.run a j cs p h1 h2 h3
    have l4 := c.c4 cs (List.mem_of_getElem? h2)
    rw [h4]
    exact ⟨_, r.held (c.held j (List.mem_of_getElem? h1)) (by rw [List.length_take]; omega)⟩
  · obtain ⟨a, j, cs, p, h1, h2, h3, h4⟩ := key e he
    have r := c.run a j cs p h1 h2 h3
    have l4 := c.c4 cs (List.mem_of_getElem? h2)
    rw [h4]
    have lt : (cs.take p).length ≤ 4 := by rw [List.length_take]; omega
    exact (r.ab (c.held j (List.mem_of_getElem? h1)) lt).mono (Nat.mul_le_mul_right _ lt)
theorem Cell.tr (c : Cell ns js css S) (ho : Ord css ps od) : ∃ tr, Tr ns js od tr ∧ tr (ns.length + od.length) = stD ns S ps := by
  obtain ⟨pl, g0, g1, g2, g3⟩ := ho.places
  have hz : ∀ a j, js[a]? = some j → S a ((pl 0)[a]?.getD 0) = (j, 0) := fun a j hj => by
    have e : (pl 0)[a]?.getD 0 = 0 := by
      rw [g0, List.getElem?_map]
      cases css[a]? <;> rfl
    rw [e]
    exact c.s0 a j hj
  have trE : ∀ t, (if ns.length + t ≤ ns.length then (stD ns S (pl 0)).take (ns.length + t) else stD ns S (pl (ns.length + t - ns.length))) = stD ns S (pl t) := fun t => by
    by_cases e : t = 0
    · subst e
      rw [if_pos (by omega), List.take_of_length_le (by rw [stD_len]; omega)]
    · rw [if_neg (by omega), Nat.add_sub_cancel_left]
  refine ⟨fun i => if i ≤ ns.length then (stD ns S (pl 0)).take i else stD ns S (pl (i - ns.length)), ?_, by (try dsimp only); rw [trE, g1]⟩
  have hok : ∀ i, i ≤ ns.length + od.length → JOk (if i ≤ ns.length then (stD ns S (pl 0)).take i else stD ns S (pl (i - ns.length))) := fun i hi => by
    split
    · exact (c.ok (g2 0 (Nat.zero_le _))).take i
    · exact c.ok (g2 _ (by omega))
  have hod : od.length ≤ 16 := by
    have h1 := ho.le
    have h2 := h1.1.sum
    have h3 := c.c4
    have h4 : (lensL css).sum ≤ 4 * css.length := by
      clear g3 g2 g1 g0 ho h1 h2
      have cl := c.cl
      clear c hz trE hok cl
      induction css with
      | nil => exact Nat.le_refl _
      | cons x cs ih =>
        have := ih fun y hy => h3 y (List.mem_cons_of_mem _ hy)
        have h2 := h3 x List.mem_cons_self
        unfold lensL at *
        rw [List.map_cons, List.sum_cons, List.length_cons]
        omega
    have := c.cl
    have := c.nl
    omega
  refine ⟨c.jl.symm, c.nl, by omega, by (try dsimp only); rw [if_pos (Nat.zero_le _), List.take_zero], fun i n j hn hj => ?_, fun t a d hd => ?_, hok, fun i hi => need_ge _⟩
  · have hb := (List.getElem?_eq_some_iff.mp hn).1
    try dsimp only
    rw [if_pos (by omega), if_pos (by omega)]
    have hnew : n ∉ ((stD ns S (pl 0)).take i).map (·.1) := by
      rw [List.map_take, stD_keys]
      intro hm
      obtain ⟨k, hk⟩ := List.getElem?_of_mem hm
      have hkb := (List.getElem?_eq_some_iff.mp hk).1
      rw [List.length_take] at hkb
      rw [List.getElem?_take_of_lt (by omega)] at hk
      have := nodup_ix c.nd hk hn
      omega
    obtain ⟨e1, e2⟩ := jput_new hnew (j, 0)
    refine ⟨?_, e2, c.nm n (List.mem_of_getElem? hn), c.held j (List.mem_of_getElem? hj)⟩
    rw [e1, List.take_add_one, stD_at hn, hz i j hj]
    rfl
  · obtain ⟨k, cs, h1, h2, h3, h4⟩ := g3 t a d hd
    have htl := (List.getElem?_eq_some_iff.mp hd).1
    have hcb := (List.getElem?_eq_some_iff.mp h1).1
    have hab : a < ns.length := by rw [← c.cl]; exact hcb
    have hn : ns[a]? = some ns[a] := List.getElem?_eq_getElem hab
    have hj : js[a]? = some (js[a]'(by rw [c.jl]; exact hab)) := List.getElem?_eq_getElem _
    have hkb := (List.getElem?_eq_some_iff.mp h3).1
    have l4 := c.c4 cs (List.mem_of_getElem? h1)
    obtain ⟨v, q1, q2, q3⟩ := c.st a cs k d h1 h3
    have r := c.run a _ cs k hj h1 (by omega)
    have heldk := r.held (c.held _ (List.mem_of_getElem? hj)) (by rw [List.length_take]; omega)
    have okt := c.ok (g2 t (by omega))
    have okt1 := c.ok (g2 (t + 1) htl)
    have e0 : (stD ns S (pl t))[a]? = some (ns[a], S a k) := by rw [stD_at hn, h2]; rfl
    have e1 : stD ns S (pl (t + 1)) = jput (stD ns S (pl t)) ns[a] (((S a k).1.left d).tidy, (S a k).2 + v) := by
      rw [jput_at (by rw [stD_keys]; exact c.nd) e0, h4, stD_set hn (List.getElem?_eq_some_iff.mp h2).1, q3]
    refine ⟨ns[a], _, (S a k).1, (S a k).2, v, hn, c.nm _ (List.mem_of_getElem? hn), ?_, q1, q2, heldk, ?_, ?_⟩
    · try dsimp only
      rw [trE]
      exact okt.get (List.mem_of_getElem? e0)
    · try dsimp only
      rw [Nat.add_assoc, trE, trE]
      exact e1
    · try dsimp only
      rw [Nat.add_assoc, trE]
      have e2 : (stD ns S (pl (t + 1)))[a]? = some (ns[a], (((S a k).1.left d).tidy, (S a k).2 + v)) := by
        rw [stD_at hn, h4, List.getElem?_set_self (List.getElem?_eq_some_iff.mp h2).1, ← q3]
        rfl
      exact okt1.get (List.mem_of_getElem? e2)
end
theorem Tr.all {ns : List Str} {js : List Job} {od : List (Nat × List Nat)} {tr : Nat → JD} (t : Tr ns js od tr) : okT 1000000000000000000000000000000000000000000000000000000000000 tr (ns.length + od.length) := fun k _ h2 => need_le (t.ok k h2)
theorem topT_ge (tr : Nat → JD) : ∀ n, 0 ≤ topT tr n ∧ ∀ k, 1 ≤ k → k ≤ n → needD (tr k) ≤ topT tr n
  | 0 => ⟨Int.le_refl _, fun k h1 h2 => absurd h1 (by omega)⟩
  | n + 1 => by
    obtain ⟨h1, h2⟩ := topT_ge tr n
    have e : topT tr (n + 1) = imax (topT tr n) (needD (tr (n + 1))) := rfl
    have m : topT tr n ≤ topT tr (n + 1) ∧ needD (tr (n + 1)) ≤ topT tr (n + 1) := by
      rw [e]
      unfold imax
      split <;> omega
    refine ⟨by omega, fun k g1 g2 => ?_⟩
    rcases Nat.lt_or_ge n k with z | z
    · have : k = n + 1 := by omega
      rw [this]
      exact m.2
    · have := h2 k g1 z
      omega
theorem topT_is (tr : Nat → JD) : ∀ n, topT tr n = 0 ∨ ∃ k, 1 ≤ k ∧ k ≤ n ∧ needD (tr k) = topT tr n
  | 0 => .inl rfl
  | n + 1 => by
    have e : topT tr (n + 1) = imax (topT tr n) (needD (tr (n + 1))) := rfl
    rw [e]
    unfold imax
    split
    · exact .inr ⟨n + 1, by omega, Nat.le_refl _, rfl⟩
    · rcases topT_is tr n with h | ⟨k, h1, h2, h3⟩
      · exact .inl h
      · exact .inr ⟨k, h1, by omega, h3⟩
theorem topT_le (tr : Nat → JD) (n : Nat) {c : Int} (h0 : 0 ≤ c) (h : okT c tr n) : topT tr n ≤ c := by
  rcases topT_is tr n with e | ⟨k, h1, h2, h3⟩
  · omega
  · have := h k h1 h2
    omega
end RP
end
section
set_option autoImplicit false
set_option maxHeartbeats 4000000
namespace RP
open PySem PySem.Spec PyProof.Rows L2
def LB (K : PySem.W.Frag) (B : Hp) (a : Addr) (xs : List PyData) : Prop := ∃ vs, B a = some (.lst vs) ∧ DtL K B vs xs
/-- slots, made known by the base heap -/
inductive Rb (σ : L2.St) (p : Nat) : Nat → List Sl → List Sl → Prop
  | nil {k : Nat} : Rb σ p k [] []
  | same {k : Nat} {t : Sl} {Γ Γ' : List Sl} : t.isL = false → Rb σ p (k + 1) Γ Γ' → Rb σ p k (t :: Γ) (t :: Γ')
  | un {k : Nat} {s : Sl} {Γ Γ' : List Sl} : Rb σ p (k + 1) Γ Γ' → Rb σ p k (s :: Γ) (.un :: Γ')
  | ref {k : Nat} {s : Sl} {a : Addr} {Γ Γ' : List Sl} : σ[k]? = some (some (.ref a)) → Rb σ p (k + 1) Γ Γ' → Rb σ p k (s :: Γ) (.g (refS a) :: Γ')
theorem Rb.len {σ : L2.St} {p k : Nat} {Γ Γ' : List Sl} (h : Rb σ p k Γ Γ') : Γ'.length = Γ.length := by
  induction h with
  | nil => rfl
  | same _ _ ih => rw [List.length_cons, List.length_cons, ih]
  | un _ ih => rw [List.length_cons, List.length_cons, ih]
  | ref _ _ ih => rw [List.length_cons, List.length_cons, ih]
theorem Rb.at {σ : L2.St} {p k : Nat} {Γ Γ' : List Sl} (h : Rb σ p k Γ Γ') : ∀ (j : Nat) (t : Sl), Γ'[j]? = some t → t ≠ .un → t.isL = false ∧ (Γ[j]? = some t ∨ ∃ a, t = .g (refS a) ∧ σ[k + j]? = some (some (.ref a))) := by
  induction h with
  | nil => intro j t h; simp at h
  | @same k t Γ Γ' hl _ ih =>
    intro j u hj n
    cases j with
    | zero =>
      simp at hj
      subst hj
      exact ⟨hl, .inl rfl⟩
    | succ j =>
      obtain ⟨h1, h2⟩ := ih j u (by simpa using hj) n
      refine ⟨h1, ?_⟩
      rcases h2 with h2 | ⟨a, e, h2⟩
      · exact .inl (by simpa using h2)
      · exact .inr ⟨a, e, by rw [show k + (j + 1) = k + 1 + j by omega]; exact h2⟩
  | @un k s Γ Γ' _ ih =>
    intro j u hj n
    cases j with
    | zero =>
      simp at hj
      exact absurd hj.symm n
    | succ j =>
      obtain ⟨h1, h2⟩ := ih j u (by simpa using hj) n
      refine ⟨h1, ?_⟩
      rcases h2 with h2 | ⟨a, e, h2⟩
      · exact .inl (by simpa using h2)
      · exact .inr ⟨a, e, by rw [show k + (j + 1) = k + 1 + j by omega]; exact h2⟩
  | @ref k s a Γ Γ' hr _ ih =>
    intro j u hj n
    cases j with
    | zero =>
      simp at hj
      subst hj
      exact ⟨rfl, .inr ⟨a, rfl, hr⟩⟩
    | succ j =>
      obtain ⟨h1, h2⟩ := ih j u (by simpa using hj) n
      refine ⟨h1, ?_⟩
      rcases h2 with h2 | ⟨a, e, h2⟩
      · exact .inl (by simpa using h2)
      · exact .inr ⟨a, e, by rw [show k + (j + 1) = k + 1 + j by omega]; exact h2⟩
section
variable {K : PySem.W.Frag} {H0 H H' H'' B B' : Hp} {Γ Γ1 Γ' : List Sl} {σ σ' : L2.St} {z : Addr} {p : Nat} {te ta tb : TE} {tr : TA} {tt t u : TT} {g : TG} {wi : TI} {vs : List Nat} {r r1 r2 : Rk} {v : V} {P P1 P3 : Rk → Prop} {PA1 : List Rk → Prop} {post : Rk → Prop} {nx : List Sl → Prop} {tS uS : TS} {xs : List PyData} {a : Addr}
theorem LB.mono (e : Same B B') (h : LB K B a xs) : LB K B' a xs := by
  obtain ⟨vs, h1, h2⟩ := h
  exact ⟨vs, e _ _ h1, DtL.keep (TK.of e) h2⟩
theorem delH_tk (pz : PotAt H z) : TK H (delH z H) := fun b xs h => by
  rw [delH_ne]
  · exact h
  · rintro rfl
    obtain ⟨i, j, k, pz⟩ := pz
    rw [pz] at h
    cases h
theorem PS.under (s : PS K H0 Γ p σ H z) : Same H0 (delH z H) := fun b o h => by
  rw [delH_ne]
  · exact s.base b o h
  · rintro rfl
    rw [s.at.2] at h
    cases h
theorem rp_ps {i j k : Int} (rp : Rp K H0 Γ σ H) (h : Γ[p]? = some (.l (potL i j k))) : ∃ z, PS K H0 Γ p σ H z := by
  obtain ⟨z, vs, h1, h2, h3, h4⟩ := rp.ownAt h
  have hl := (List.getElem?_eq_some_iff.mp h).1
  have e : Γ.set p (.l (potL i j k)) = Γ := by
    apply List.ext_getElem?
    intro q
    rw [List.getElem?_set]
    by_cases e : p = q
    · subst e
      rw [if_pos rfl, if_pos hl, h]
    · rw [if_neg e]
  exact ⟨z, ⟨i, j, k, by rw [e]; exact rp⟩, h1, hl⟩
theorem PS.rebase (s : PS K H0 Γ p σ H z) (h : Rb σ p 0 Γ Γ') : PS K (delH z H) Γ' p σ H z := by
  obtain ⟨i, j, k, rp⟩ := s.ex
  have hl := h.len
  refine ⟨⟨i, j, k, delH_same, by rw [List.length_set, hl]; have := rp.len; rwa [List.length_set] at this, fun q t hq n => ?_, fun a b t u ne ha hb ho hL => ?_⟩, s.hz, by rw [hl]; exact s.pl⟩
  · by_cases e : q = p
    · subst e
      rw [List.getElem?_set_self (by rw [hl]; exact s.pl)] at hq
      cases hq
      obtain ⟨v, h1, a, vs, h2, h3, h4, h5⟩ := rp.at_ q (.l (potL i j k)) (by rw [List.getElem?_set_self s.pl]) (by intro z; cases z)
      rw [s.hz] at h1
      cases h1
      cases h2
      exact ⟨_, s.hz, z, vs, rfl, h3, h4, delH_self⟩
    · rw [List.getElem?_set_ne (Ne.symm e)] at hq
      obtain ⟨h1, h2⟩ := h.at q t hq n
      rw [Nat.zero_add] at h2
      rcases h2 with h2 | ⟨a, rfl, h2⟩
      · obtain ⟨v, h3, h4⟩ := rp.at_ q t (by rw [List.getElem?_set_ne (Ne.symm e)]; exact h2) n
        refine ⟨v, h3, ?_⟩
        cases t with
        | un => trivial
        | d x => exact h4
        | g R => exact h4
        | l xs => cases h1
        | f xs => cases h1
      · exact ⟨_, h2, fun _ _ => rfl⟩
  · have key : ∀ (q : Nat) (t : Sl), q ≠ p → (Γ'.set p (.l (potL i j k)))[q]? = some t → t.isL = false := fun q t hqp hq => by
      rw [List.getElem?_set_ne (Ne.symm hqp)] at hq
      by_cases hu : t = .un
      · rw [hu]
        rfl
      · exact (h.at q t hq hu).1
    by_cases e : a = p
    · have := key b u (fun e2 => ne (by rw [e, e2])) hb
      rw [this] at hL
      cases hL
    · have := key a t e ha
      rw [own_isL ho] at this
      cases this
theorem PS.ownL (s : PS K H0 Γ p σ H z) {i : Nat} (hi : Γ[i]? = some (.l xs)) (hip : i ≠ p) : ∃ a, σ[i]? = some (some (.ref a)) ∧ LB K (delH z H) a xs := by
  obtain ⟨i0, j0, k0, rp⟩ := s.ex
  have hg : (Γ.set p (.l (potL i0 j0 k0)))[i]? = some (.l xs) := by rw [List.getElem?_set_ne (Ne.symm hip)]; exact hi
  obtain ⟨a, vs, h1, h2, h3, h4⟩ := rp.ownAt hg
  have naz : a ≠ z := fun ez => by
    refine rp.dis i p _ _ hip hg (by rw [List.getElem?_set_self s.pl]) rfl rfl ?_
    rw [s.hz, h1, ez]
  exact ⟨a, h1, vs, by rw [delH_ne naz]; exact h2, DtL.keep (delH_tk s.at.1) h3⟩
theorem semp_varB {q : Nat} (hq : q ≠ p) (h : Γ[q]? = some (.g (refS a))) (hb : LB K B a xs) : SemP B p K Γ (tVar q) (fun r => r = .s xs) := fun H0 σ H z Q b s q' => by
  obtain ⟨ws, h1, h2⟩ := hb
  exact ⟨_, s.varR hq h, q' _ H _ rfl (SZ.refl s.at.1) s ⟨⟨a, ws, rfl, (s.base_ne b h1).2, DtL.keep (TK.of (b.trans s.base)) h2⟩, fun _ e => (s.base_ne b h1).1 (by cases e; rfl)⟩⟩
/-- sorted(a list of texts) -/
theorem semp_sortedS {C : List Str → Prop} (h : SemP B p K Γ te (fun r => ∃ ns, r = .l (ns.map PyData.str) ∧ C ns)) (hl : ∀ ns, C ns → ns.length < 64) : SemP B p K Γ (tCB (rSortedS K) (tCons te tNil)) (fun r => ∃ ys ns, r = .l (ys.map PyData.str) ∧ C ns ∧ ys.Perm ns ∧ sortedS ys = true) := fun H0 σ H z Q b s q =>
  h H0 σ H z _ b s fun v H1 r hr e1 s1 a1 => by
    obtain ⟨ns, rfl, hC⟩ := hr
    obtain ⟨⟨c, ws, rfl, h0, h1, h2⟩, _⟩ := a1
    have e := strs_flat h2
    subst e
    refine ⟨c, ns, rfl, SqL.of h1, hl ns hC, fun ys d hp hs hd => ?_⟩
    exact q _ _ _ ⟨ys, ns, rfl, hC, hp, hs⟩ (e1.trans (SZ.of s1.at.1 (same_new hd))) (s1.mono (same_new hd)) ((resz_of (r := .l (ys.map PyData.str)) (K := K) (H' := upd H1 d (.lst (ys.map V.str))) s1.at.1 (fun xs z => by cases z) ⟨d, _, rfl, hd, upd_same, dtl_strs _⟩).back e1)
/-- for, over what the base heap holds -/
theorem bp_forW (n : Nat) (Y : Nat → Hp → V → Prop) (Inv : Nat → List Sl → Prop)
    (hi : ∀ H0 σ H z, Same B H0 → PS K H0 Γ p σ H z → ∀ R : It → Hp → Prop, (∀ J, L2.Walk J n (fun G => Same B G) (fun i Ga v Gb => Same Ga Gb ∧ Y i Gb v) → R J H) → wi σ H R)
    (h0 : Inv 0 Γ)
    (hs : ∀ k v Γ1 H0 σ G z, k < n → Same B H0 → Inv k Γ1 → PS K H0 Γ1 p σ G z → Y k G v → ∀ C : L2.St → Hp → Prop, (∀ σ2 Γ2, PS K H0 Γ2 p σ2 G z → BP B p K Γ2 tS post (Inv (k + 1)) → C σ2 G) → g v σ G C)
    (hn : ∀ Γ1, Inv n Γ1 → nx Γ1) : BP B p K Γ (tFor wi g tS) post nx := fun H0 z D b e σ H s =>
  hi H0 σ H z b s _ fun J w => for_it w (fun m σ' G => ∃ Γ1, Inv m Γ1 ∧ PS K H0 Γ1 p σ' G z) ⟨Γ, h0, s⟩ (fun _ _ _ _ ⟨_, _, s'⟩ => b.trans s'.base) (fun m x σ' G G' hm s' y => by
    obtain ⟨Γ1, hI, s2⟩ := s'
    exact hs m x Γ1 H0 σ' G' z hm b hI (s2.mono y.1) y.2 _ fun σ2 Γ2 s3 hb => hb H0 z { D with nx := fun σ' G => ∃ Γ1, Inv (m + 1) Γ1 ∧ PS K H0 Γ1 p σ' G z, ct := fun σ' G => ∃ Γ1, Inv (m + 1) Γ1 ∧ PS K H0 Γ1 p σ' G z, bk := D.nx } b ⟨e.1, fun σ3 G3 Γ3 h3 s3 => ⟨Γ3, h3, s3⟩⟩ σ2 G' s3) (fun σ' G s' => by
    obtain ⟨Γ1, hI, s2⟩ := s'
    exact e.2 σ' G Γ1 (hn Γ1 hI) s2)
theorem hiB_list {ws : List V} (s : PS K H0 Γ p σ H z) (b : Same B H0) (ha : B a = some (.lst ws)) {q : Nat} (hv : σ[q]? = some (some (.ref a))) : ∀ R : It → Hp → Prop,
    (∀ J, L2.Walk J ws.length (fun G => Same B G) (fun i Ga v Gb => Same Ga Gb ∧ ws[i]? = some v) → R J H) → iList K (tVar q) σ H R := fun R qq => by
  refine ⟨_, hv, a, rfl, ⟨ws, SqL.of (s.base_ne b ha).2⟩, qq _ ?_⟩
  refine (walk_list (K := K) (a := a) (xs := ws)).mono (fun G sz => SqL.of (sz _ _ ha)) fun i G x G' hi sz y => ?_
  obtain ⟨rfl, hx⟩ := y
  exact ⟨Same.refl _, hx⟩
theorem hiB_enum {ws : List V} (s : PS K H0 Γ p σ H z) (b : Same B H0) (ha : B a = some (.lst ws)) {q : Nat} (hv : σ[q]? = some (some (.ref a))) : ∀ R : It → Hp → Prop,
    (∀ J, L2.Walk J ws.length (fun G => Same B G) (fun i Ga v Gb => Same Ga Gb ∧ YEn ws i Gb v) → R J H) → iEnum K (tCons (tVar q) tNil) σ H R := fun R qq => by
  refine ⟨_, hv, a, ws, rfl, SqL.of (s.base_ne b ha).2, qq _ ?_⟩
  refine (walk_enum (K := K) (a := a) (xs := ws)).mono (fun G sz => SqL.of (sz _ _ ha)) fun i G x G' hi sz y => ?_
  obtain ⟨T, a', x', rfl, hT, rfl, ea, eb⟩ := y
  cases ea
  exact ⟨same_new hT, T, x', rfl, upd_same, eb⟩
/-- a call of a def on data -/
theorem semp_callF {pre : List Rk → Rk → Prop} {E : XK} (ha : SemPA B p K Γ tr PA1) (h : ∀ rs, PA1 rs → ∃ r, pre rs r ∧ P r ∧ (∀ xs, r ≠ .s xs)) : SemP B p K Γ (tCall (spF K pre) [] E tr) P := fun H0 σ H z Q b s q =>
  ha H0 σ H z _ b s fun vs H1 rs hrs e1 s1 a1 => by
    obtain ⟨r, hp, hr, ns⟩ := h rs hrs
    exact ⟨rs, r, hp, by rw [List.append_nil]; exact a1.agl, fun u H2 e2 a2 => q u H2 r hr (e1.trans (SZ.of s1.at.1 e2)) (s1.mono e2) ((resz_of s1.at.1 ns a2).back e1)⟩
theorem semp_meth {pre : List Rk → Rk → Prop} {E : XK} {m : Str} {S : KS} (hm : m ∉ kFields) (h : SemP B p K Γ te (fun r => r = .g (KpAt K S))) (ha : SemPA B p K Γ tr PA1) (hp : ∀ rs, PA1 rs → ∃ r, pre (.g (KpAt K S) :: rs) r ∧ P r ∧ (∀ xs, r ≠ .s xs)) : SemP B p K Γ (tMeth (He.ga K "Keeper") m (spF K pre) [] E te tr) P := fun H0 σ H z Q b s q =>
  h H0 σ H z _ b s fun v0 H1 r0 hr0 e1 s1 a1 => by
    subst hr0
    have fa : Fst (KpAt K S) H1 v0 := a1.1
    obtain ⟨a, dx, fs, v, e, h1, h2, h3, h4, h5⟩ := fa.now
    refine ⟨a, dx, fs, e, h1, h5 m hm, ha H0 σ H1 z _ b s1 fun vs H2 rs hrs e2 s2 a2 => ?_⟩
    obtain ⟨r, hp, hr, ns⟩ := hp rs hrs
    refine ⟨_, r, hp, ?_, fun u H3 e3 a3 => q u H3 r hr ((e1.trans e2).trans (SZ.of s2.at.1 e3)) (s2.mono e3) ((resz_of s2.at.1 ns a3).back (e1.trans e2))⟩
    rw [List.append_nil]
    exact ⟨Fst.mono e2.nl fa, a2.agl⟩
/-- three values that stand go to three slots -/
theorem ps_triple {i j l : Nat} {T : Addr} {x y w : V} {r1 r2 r3 : Rk} {C : L2.St → Hp → Prop} (s : PS K H0 Γ p σ H z) (hT : H T = some (.tup [x, y, w])) (hip : i ≠ p) (hjp : j ≠ p) (hlp : l ≠ p) (a1 : ResZ z K H0 H r1 x) (a2 : ResZ z K H0 H r2 y) (a3 : ResZ z K H0 H r3 w) (n1 : ∀ xs, r1 ≠ .l xs) (n2 : ∀ xs, r2 ≠ .l xs) (n3 : ∀ xs, r3 ≠ .l xs)
    (q : PS K H0 (((Γ.set i r1.sl).set j r2.sl).set l r3.sl) p (((σ.set i (some x)).set j (some y)).set l (some w)) H z → Dif [i, j, l] σ (((σ.set i (some x)).set j (some y)).set l (some w)) → C (((σ.set i (some x)).set j (some y)).set l (some w)) H) : gTup K 3 (gCons (gName i) (gCons (gName j) (gCons (gName l) gNil))) (.ref T) σ H C := by
  refine ⟨T, [x, y, w], rfl, .inl (.inl hT), rfl, x, [y, w], rfl, y, [w], rfl, w, [], rfl, rfl, q ?_ ⟨by rw [List.length_set, List.length_set, List.length_set], fun k hk => ?_⟩⟩
  · exact ((s.store a1 hip fun xs e => absurd e (n1 xs)).store a2 hjp fun xs e => absurd e (n2 xs)).store a3 hlp fun xs e => absurd e (n3 xs)
  · rw [List.getElem?_set_ne (fun e => hk (by simp [e])), List.getElem?_set_ne (fun e => hk (by simp [e])), List.getElem?_set_ne (fun e => hk (by simp [e]))]
theorem sempt_orF (h : SemPT B p K Γ t (fun b => b = false)) (h2 : SemPT B p K Γ u (fun b => b = false)) : SemPT B p K Γ (tOr t u) (fun b => b = false) := (sempt_or h fun _ => h2).mono fun b h => by
  rcases h with ⟨h, _⟩ | ⟨_, h⟩
  · cases h
  · exact h
theorem sempt_not {C : Bool → Prop} (h : SemPT B p K Γ t C) : SemPT B p K Γ (tNot t) (fun b => C (!b)) := fun H0 σ H z Q b s q => h H0 σ H z _ b s fun x H1 hx e1 s1 => q (!x) H1 (by show C (!!x); rw [Bool.not_not]; exact hx) e1 s1
/-! ### what a leading gives -/
variable {lim top : Int} {D : JD} {n : Nat}
theorem rvd_led0 : RvD K (rIxT K) (.g (LedR K lim D n top)) (.d (.int 0)) (.g (KpAt K ⟨lim, D, n⟩)) := fun H v w Q a b q => by
  obtain ⟨t, k, rfl, h1, h2⟩ := a.now
  exact ⟨t, [.ref k, .int top], 0, .ref k, rfl, Dt.isInt b, .inl (.inl h1), rfl, q _ H (Same.refl H) (kpAt_fst h2)⟩
theorem rvd_led1 : RvD K (rIxT K) (.g (LedR K lim D n top)) (.d (.int 1)) (.d (.int top)) := fun H v w Q a b q => by
  obtain ⟨t, k, rfl, h1, h2⟩ := a.now
  exact ⟨t, [.ref k, .int top], 1, .int top, rfl, Dt.isInt b, .inl (.inl h1), rfl, q _ H (Same.refl H) (.int _)⟩
theorem rvd_ledN : RvD K (fun x y H Q => y = .non ∧ Q (.bl (decide (x = .non))) H) (.g (LedR K lim D n top)) (.d .none) (.d (.bool false)) := fun H v w Q a b q => by
  obtain ⟨t, k, rfl, h1, h2⟩ := a.now
  exact ⟨Dt.isNone b, q _ H (Same.refl H) (.bl _)⟩
theorem rvd_eqK {S1 S2 : KS} (h1 : S1.lim = S2.lim) (h2 : S1.D = S2.D) (ok : JOk S1.D) : RvD K (rEqG (DIns (He.ga K "Keeper") (RKeep K))) (.g (KpAt K S1)) (.g (KpAt K S2)) (.d (.bool true)) := fun H v w Q a b q => by
  obtain ⟨x, dx, fs, u, rfl, g1, g2, g3, g4, g5⟩ := id a.now
  obtain ⟨y, dy, fs2, u2, rfl, k1, k2, k3, k4, k5⟩ := id b.now
  refine ⟨⟨x, y, dx, dy, fs, fs2, rfl, rfl, g1, k1, S1, S2, a.now, b.now, h1, h2, fun e he => ?_, ok.nd⟩, fun H' s' => q _ H' s' (.bl _)⟩
  obtain ⟨k, hh⟩ := ok.job e he
  have := hh.depth
  omega
end
end RP
end
section
set_option autoImplicit false
set_option maxHeartbeats 2000000
namespace RP
open PySem PySem.Spec PyProof.Rows L2
/-- a row: the choices, what is left, what is held -/
abbrev RowT : Type := List (List Nat) × Job × Int
def rowsC (rows : List RowT) : List (List (List Nat)) := rows.map (·.1)
theorem cell_of {ns : List Str} {js : List Job} {rows : List RowT} (nl : ns.length ≤ 4) (nd : ns.Nodup) (srt : ns.Pairwise sle) (nm : ∀ n ∈ ns, NmOk n) (jl : js.length = ns.length) (held : ∀ j ∈ js, Held 4 j) (rl : rows.length = ns.length)
    (hr : ∀ (a : Nat) (j : Job) (r : RowT), js[a]? = some j → rows[a]? = some r → Run j r.1 r.2.1 r.2.2 ∧ r.1.length ≤ 4) :
    ∃ S, Cell ns js (rowsC rows) S ∧ (stD ns S (lensL (rowsC rows))).map (·.2) = rows.map (·.2) := by
  have ex : ∀ a : Nat, ∃ Sa : Nat → Job × Int, ∀ (j : Job) (r : RowT), js[a]? = some j → rows[a]? = some r → Sa 0 = (j, 0) ∧ Sa r.1.length = r.2 ∧ (∀ p, p ≤ r.1.length → Run j (r.1.take p) (Sa p).1 (Sa p).2) ∧
      ∀ p c, r.1[p]? = some c → ∃ v, c ∈ (Sa p).1.choices ∧ (Sa p).1.Ch c v ∧ Sa (p + 1) = (((Sa p).1.left c).tidy, (Sa p).2 + v) := fun a => by
    by_cases h : a < ns.length
    · have hj : js[a]? = some (js[a]'(by omega)) := List.getElem?_eq_getElem _
      have hrw : rows[a]? = some (rows[a]'(by omega)) := List.getElem?_eq_getElem _
      obtain ⟨Sa, h0, h1, h2, h3⟩ := (hr a _ _ hj hrw).1.states
      refine ⟨Sa, fun j r e1 e2 => ?_⟩
      rw [hj] at e1
      rw [hrw] at e2
      cases e1
      cases e2
      exact ⟨h0, h1, h2, h3⟩
    · exact ⟨fun _ => (.step 0, 0), fun j r e1 e2 => absurd (List.getElem?_eq_some_iff.mp e1).1 (by omega)⟩
  refine ⟨fun a => Classical.choose (ex a), ?_, ?_⟩
  · have key := fun a => Classical.choose_spec (ex a)
    have rj : ∀ (a : Nat) (j : Job), js[a]? = some j → ∃ r, rows[a]? = some r := fun a j h => ⟨rows[a]'(by have := (List.getElem?_eq_some_iff.mp h).1; omega), List.getElem?_eq_getElem _⟩
    have cr : ∀ (a : Nat) (cs : List (List Nat)), (rowsC rows)[a]? = some cs → ∃ r, rows[a]? = some r ∧ r.1 = cs := fun a cs h => by
      unfold rowsC at h
      rw [List.getElem?_map] at h
      obtain ⟨r, h1, h2⟩ := Option.map_eq_some_iff.mp h
      exact ⟨r, h1, h2⟩
    have jr : ∀ (a : Nat) (r : RowT), rows[a]? = some r → ∃ j, js[a]? = some j := fun a r h => ⟨js[a]'(by have := (List.getElem?_eq_some_iff.mp h).1; omega), List.getElem?_eq_getElem _⟩
    refine ⟨nl, nd, srt, nm, jl, held, by unfold rowsC; rw [List.length_map, rl], fun cs hcs => ?_, fun a j hj => ?_, fun a j cs p hj hc hp => ?_, fun a cs p c hc hp => ?_⟩
    · obtain ⟨a, ha⟩ := List.getElem?_of_mem hcs
      obtain ⟨r, h1, rfl⟩ := cr a cs ha
      obtain ⟨j, hj⟩ := jr a r h1
      exact (hr a j r hj h1).2
    · obtain ⟨r, h1⟩ := rj a j hj
      exact (key a j r hj h1).1
    · obtain ⟨r, h1, rfl⟩ := cr a cs hc
      exact (key a j r hj h1).2.2.1 p hp
    · obtain ⟨r, h1, rfl⟩ := cr a cs hc
      obtain ⟨j, hj⟩ := jr a r h1
      exact (key a j r hj h1).2.2.2 p c hp
  · apply List.ext_getElem?
    intro a
    unfold stD
    rw [List.getElem?_map, List.getElem?_mapIdx, List.getElem?_map]
    by_cases h : a < ns.length
    · have hj : js[a]? = some (js[a]'(by omega)) := List.getElem?_eq_getElem _
      have hrw : rows[a]? = some (rows[a]'(by omega)) := List.getElem?_eq_getElem _
      have hl : (lensL (rowsC rows))[a]? = some (rows[a]'(by omega)).1.length := by unfold lensL rowsC; rw [List.getElem?_map, List.getElem?_map, hrw]; rfl
      rw [List.getElem?_eq_getElem h, hrw, hl]
      exact congrArg some (Classical.choose_spec (ex a) _ _ hj hrw).2.1
    · rw [show ns[a]? = none from List.getElem?_eq_none_iff.mpr (by omega), show rows[a]? = none from List.getElem?_eq_none_iff.mpr (by omega)]
      rfl
/-! ### one row after the other -/
def plPs (css : List (List (List Nat))) (k : Nat) : List Nat := css.mapIdx fun a cs => if a < k then cs.length else 0
def plOd (css : List (List (List Nat))) : Nat → List (Nat × List Nat)
  | 0 => []
  | k + 1 => plOd css k ++ (css[k]?.getD []).map fun c => (k, c)
theorem plPs_at {css : List (List (List Nat))} {k a : Nat} {cs : List (List Nat)} (h : css[a]? = some cs) : (plPs css k)[a]? = some (if a < k then cs.length else 0) := by
  unfold plPs
  rw [List.getElem?_mapIdx, h]
  rfl
theorem ord_plain (css : List (List (List Nat))) : ∀ k, k ≤ css.length → Ord css (plPs css k) (plOd css k)
  | 0, _ => by
    have e : plPs css 0 = css.map fun _ => 0 := by
      apply List.ext_getElem?
      intro a
      unfold plPs
      rw [List.getElem?_mapIdx, List.getElem?_map]
      cases css[a]? <;> rfl
    rw [e]
    exact .nil
  | k + 1, hk => by
    have ih := ord_plain css k (by omega)
    have hc : css[k]? = some (css[k]'(by omega)) := List.getElem?_eq_getElem _
    have key : ∀ p, p ≤ (css[k]'(by omega)).length → Ord css ((plPs css k).set k p) (plOd css k ++ ((css[k]'(by omega)).take p).map fun c => (k, c)) := by
      intro p
      induction p with
      | zero =>
        intro _
        have e : (plPs css k).set k 0 = plPs css k := by
          apply List.ext_getElem?
          intro a
          rw [List.getElem?_set]
          by_cases ea : k = a
          · subst ea
            rw [if_pos rfl, plPs_at hc, if_neg (Nat.lt_irrefl _), if_pos (by unfold plPs; rw [List.length_mapIdx]; omega)]
          · rw [if_neg ea]
        rw [e, List.take_zero, List.map_nil, List.append_nil]
        exact ih
      | succ p ih2 =>
        intro hp
        have hd : (css[k]'(by omega))[p]? = some ((css[k]'(by omega))[p]'(by omega)) := List.getElem?_eq_getElem _
        have := Ord.snoc (ih2 (by omega)) hc (k := p) (by rw [List.getElem?_set_self (by unfold plPs; rw [List.length_mapIdx]; omega)]) hd
        rw [List.set_set, List.append_assoc] at this
        rw [List.take_add_one, hd, List.map_append]
        exact this
    have := key _ (Nat.le_refl _)
    rw [List.take_length] at this
    have e : (plPs css k).set k (css[k]'(by omega)).length = plPs css (k + 1) := by
      apply List.ext_getElem?
      intro a
      rw [List.getElem?_set]
      by_cases ea : k = a
      · subst ea
        rw [if_pos rfl, plPs_at hc, if_pos (Nat.lt_succ_self _), if_pos (by unfold plPs; rw [List.length_mapIdx]; omega)]
      · rw [if_neg ea]
        cases ha : css[a]? with
        | none =>
          unfold plPs
          rw [List.getElem?_mapIdx, List.getElem?_mapIdx, ha]
          rfl
        | some cs =>
          rw [plPs_at ha, plPs_at ha]
          by_cases hlt : a < k
          · rw [if_pos hlt, if_pos (by omega)]
          · rw [if_neg hlt, if_neg (by omega)]
    rw [e] at this
    rw [plOd, hc]
    exact this
theorem plPs_full (css : List (List (List Nat))) : plPs css css.length = lensL css := by
  apply List.ext_getElem?
  intro a
  unfold plPs lensL
  rw [List.getElem?_mapIdx, List.getElem?_map]
  cases ha : css[a]? with
  | none => rfl
  | some cs =>
    have := (List.getElem?_eq_some_iff.mp ha).1
    show some (if a < css.length then cs.length else 0) = some cs.length
    rw [if_pos this]
theorem plOd_len (css : List (List (List Nat))) (h : ∀ cs ∈ css, cs.length ≤ 4) : ∀ k, (plOd css k).length ≤ 4 * k
  | 0 => Nat.le_refl _
  | k + 1 => by
    have ih := plOd_len css h k
    rw [plOd, List.length_append, List.length_map]
    have : (css[k]?.getD []).length ≤ 4 := by
      cases hc : css[k]? with
      | none => exact Nat.zero_le _
      | some cs => exact h cs (List.mem_of_getElem? hc)
    omega
end RP
end
section
set_option autoImplicit false
set_option maxHeartbeats 4000000
namespace RP
open PySem PySem.Spec PyProof.Rows L2
def RowsL (K : PySem.W.Frag) (B : Hp) (rv : Addr) (rows : List RowT) : Prop := ∃ rvs : List V, B rv = some (.lst rvs) ∧ rvs.length = rows.length ∧
  ∀ (k : Nat) (r : RowT), rows[k]? = some r → ∃ (a L : Addr) (lv : V) (ws : List V), rvs[k]? = some (V.ref a) ∧ B a = some (.tup [.ref L, lv, .int r.2.2]) ∧ B L = some (.lst ws) ∧ DtL K B ws (r.1.map adD) ∧ Dt K B lv r.2.1.data
theorem RowsL.mono {K : PySem.W.Frag} {B B' : Hp} {rv : Addr} {rows : List RowT} (e : Same B B') (h : RowsL K B rv rows) : RowsL K B' rv rows := by
  obtain ⟨rvs, h1, h2, h3⟩ := h
  refine ⟨rvs, e _ _ h1, h2, fun k r hr => ?_⟩
  obtain ⟨a, L, lv, ws, g1, g2, g3, g4, g5⟩ := h3 k r hr
  exact ⟨a, L, lv, ws, g1, e _ _ g2, e _ _ g3, DtL.keep (TK.of e) g4, Dt.keep (TK.of e) g5⟩
theorem range_fm {α β : Type} (l : List α) (g : α → β) : (List.range l.length).filterMap (fun k => (l[k]?).map g) = l.map g := by
  have key : ∀ m, m ≤ l.length → (List.range m).filterMap (fun k => (l[k]?).map g) = (l.take m).map g := by
    intro m
    induction m with
    | zero => intro _; simp
    | succ m ih =>
      intro h
      have e : l[m]? = some (l[m]'(by omega)) := List.getElem?_eq_getElem _
      rw [List.range_succ, List.filterMap_append, ih (by omega), List.take_add_one, List.map_append, e]
      simp [e]
  have := key l.length (Nat.le_refl _)
  rwa [List.take_length] at this
def e60 : Int := 1000000000000000000000000000000000000000000000000000000000000
section
variable {K : PySem.W.Frag} {mg : Str → Option Value} {B : Hp} {Γ : List Sl} {te : TE} {E : XK} {rv nA jA oA : Addr} {rows : List RowT} {ns : List Str} {js : List Job} {od : List (Nat × List Nat)} {lim top : Int} {D : JD} {n : Nat} {post : Rk → Prop} {nx : List Sl → Prop}
/-- [.. for found, left, held in rows] -/
theorem semp_rows {f : RowT → PyData} (hr : RowsL K B rv rows) (hq : Γ[6]? = some (.g (refS rv))) (hΓ : Γ.length = 19) (hn : rows.length ≤ 100000)
    (hte : ∀ (Γ2 : List Sl) (r : RowT), Γ2[17]? = some (.d r.2.1.data) → Γ2[18]? = some (.d (.int r.2.2)) → SemP B 2 K Γ2 te (fun x => x = .d (f r))) :
    SemP B 2 K Γ (tLc (iList K (tVar 6)) (gTup K 3 (gCons (gName 16) (gCons (gName 17) (gCons (gName 18) gNil)))) tYes te [16, 17, 18]) (fun x => x = .l (rows.map f)) := by
  obtain ⟨rvs, h1, h2, h3⟩ := hr
  have := semp_lcW (B := B) (p := 2) (K := K) (Γ := Γ) (wi := iList K (tVar 6)) (g := gTup K 3 (gCons (gName 16) (gCons (gName 17) (gCons (gName 18) gNil)))) (tt := tYes) (te := te) (vs := [16, 17, 18]) rvs.length (fun i G v => rvs[i]? = some v ∧ Same B G) [16, 17, 18] (fun k => (rows[k]?).map f) (by decide) (by omega) (fun j hj => hj)
    (fun H0 σ H z b s R qq => hi_list s b h1 (fun Q hQ => ⟨_, s.varR (by decide) hq, hQ⟩) (fun J H' => R J H') fun J w => qq J ⟨w.goes, w.stops, fun i G x G' hi hG y => by
      have := w.yields i G x G' hi hG y
      refine ⟨this.1, this.2, ?_⟩
      intro b' o hb
      obtain ⟨g1, g2⟩ := s.base_ne b hb
      exact this.1 _ _ (hG.keep _ _ g1 g2)⟩) (fun k hk H0 σ G z v b hy s C hc => by
      have hkr : rows[k]? = some (rows[k]'(by omega)) := List.getElem?_eq_getElem _
      obtain ⟨a, L, lv, ws, g1, g2, g3, g4, g5⟩ := h3 k _ hkr
      rw [hy.1] at g1
      cases g1
      refine ps_triple (r1 := .g (refS L)) (r2 := .d (rows[k]'(by omega)).2.1.data) (r3 := .d (.int (rows[k]'(by omega)).2.2)) s (hy.2 _ _ g2) (by decide) (by decide) (by decide) ⟨fun _ _ => rfl, fun z => by cases z⟩ ⟨Dt.keep (TK.of hy.2) g5, fun z => by cases z⟩ ⟨.int _, fun z => by cases z⟩ (fun xs z => by cases z) (fun xs z => by cases z) (fun xs z => by cases z) fun s2 dif => hc _ _ s2 dif (.inl ⟨f (rows[k]'(by omega)), by rw [hkr]; rfl, fun H0 σ H z Q _ s q => q true H rfl (SZ.refl s.at.1) s, hte _ (rows[k]'(by omega)) ?_ ?_⟩)
      · rw [List.getElem?_set_ne (by decide), List.getElem?_set_self (by rw [List.length_set, wipeS_len, hΓ]; decide)]
        rfl
      · rw [List.getElem?_set_self (by rw [List.length_set, List.length_set, wipeS_len, hΓ]; decide)]
        rfl)
  rw [h2] at this
  have e : (List.range rows.length).filterMap (fun k => (rows[k]?).map f) = rows.map f := by
    exact range_fm rows f
  rw [e] at this
  exact this
/-- [first[0].remaining(name) for name in names] -/
theorem semp_remain (f : Str → Job × Int) (hb : LB K B nA (ns.map PyData.str)) (hq : Γ[3]? = some (.g (refS nA))) (hf : Γ[11]? = some (.g (LedR K lim D n top))) (hn : ns.length ≤ 100000) (hΓ : Γ.length = 19) (ok : ∀ m ∈ ns, NmOk m ∧ jget D m = some (f m)) :
    SemP B 2 K Γ (tLc (iList K (tVar 3)) (gName 5) tYes (tMeth (He.ga K "Keeper") "remaining" (spF K (pr_k_remaining (K := K))) [] E (tOp (rIxT K) (tVar 11) (tC (.int 0))) (tCons (tVar 5) tNil)) [5]) (fun x => x = .l (ns.map fun m => (f m).1.data)) := by
  obtain ⟨vs, h1, h2⟩ := hb
  have ev := strs_flat h2
  subst ev
  have := semp_lcW (B := B) (p := 2) (K := K) (Γ := Γ) (wi := iList K (tVar 3)) (g := gName 5) (tt := tYes) (te := tMeth (He.ga K "Keeper") "remaining" (spF K (pr_k_remaining (K := K))) [] E (tOp (rIxT K) (tVar 11) (tC (.int 0))) (tCons (tVar 5) tNil)) (vs := [5]) (ns.map V.str).length (fun i G v => (ns.map V.str)[i]? = some v) [5] (fun k => (ns[k]?).map fun m => (f m).1.data) (by decide) (by rw [List.length_map]; exact hn) (fun j hj => hj)
    (fun H0 σ H z b s R qq => hi_list s b h1 (fun Q hQ => ⟨_, s.varR (by decide) hq, hQ⟩) R qq) (fun k hk H0 σ G z v b hy s C hc => by
      rw [List.length_map] at hk
      have hkn : ns[k]? = some ns[k] := List.getElem?_eq_getElem _
      rw [List.getElem?_map, hkn] at hy
      cases hy
      refine hc _ _ (s.store (r := .d (.str ns[k])) (v := .str ns[k]) ⟨.str _, fun z => by cases z⟩ (by decide) fun xs e => by cases e) ⟨List.length_set, fun j hj => List.getElem?_set_ne fun e => hj (by simp [e])⟩ (.inl ⟨(f ns[k]).1.data, by rw [hkn]; rfl, fun H0 σ H z Q _ s q => q true H rfl (SZ.refl s.at.1) s, ?_⟩)
      have h11 : ((wipeS Γ [5]).set 5 (.d (.str ns[k])))[11]? = some (.g (LedR K lim D n top)) := by
        rw [List.getElem?_set_ne (by decide), wipeS_at, if_neg (by simp)]
        exact hf
      have h5 : ((wipeS Γ [5]).set 5 (.d (.str ns[k])))[5]? = some (.d (.str ns[k])) := by rw [List.getElem?_set_self (by rw [wipeS_len, hΓ]; decide)]
      obtain ⟨o1, o2⟩ := ok ns[k] (List.getElem_mem _)
      exact semp_meth (S := ⟨lim, D, n⟩) (by decide) (semp_op (semp_varG (by decide) h11) (semp_d fun _ _ _ => sem_int (i := 0)) fun r1 r2 e1 e2 => ⟨_, rfl, fun xs z => (by cases z), by subst e1 e2; exact rvd_led0⟩) (sempa_cons (semp_varD (by decide) h5) sempa_nil) fun rs ⟨r, rs', e1, e2, e⟩ => ⟨.d (f ns[k]).1.data, ⟨⟨lim, D, n⟩, ns[k], f ns[k], by rw [e, e1, e2], rfl, o1, o2⟩, rfl, fun xs z => by cases z⟩)
  rw [List.length_map] at this
  have e : (List.range ns.length).filterMap (fun k => (ns[k]?).map fun m => (f m).1.data) = ns.map fun m => (f m).1.data := by
    exact range_fm ns _
  rw [e] at this
  exact this
/-- _law_led(limit, names, jobs, order) -/
theorem sempa_led {q : Nat} (h : SemP B 2 K Γ te (fun r => r = .d (.int lim))) (h3 : Γ[3]? = some (.g (refS nA))) (h4 : Γ[4]? = some (.g (refS jA))) (hq : Γ[q]? = some (.g (refS oA))) (hq2 : q ≠ 2) (b3 : LB K B nA (ns.map PyData.str)) (b4 : LB K B jA (js.map Job.data)) (bq : LB K B oA (od.map odD)) :
    SemPA B 2 K Γ (tCons te (tCons (tVar 3) (tCons (tVar 4) (tCons (tVar q) tNil)))) (fun rs => rs = [.d (.int lim), .s (ns.map PyData.str), .s (js.map Job.data), .s (od.map odD)]) :=
  (sempa_cons h (sempa_cons (semp_varB (by decide) h3 b3) (sempa_cons (semp_varB (by decide) h4 b4) (sempa_cons (semp_varB hq2 hq bq) sempa_nil)))).mono fun rs ⟨r1, rs1, e1, ⟨r2, rs2, e2, ⟨r3, rs3, e3, ⟨r4, rs4, e4, e5, e6⟩, e7⟩, e8⟩, e9⟩ => by
    rw [e9, e8, e7, e6, e5, e4, e3, e2, e1]
theorem semp_led {q : Nat} {tr : Nat → JD} (h : SemP B 2 K Γ te (fun r => r = .d (.int lim))) (h3 : Γ[3]? = some (.g (refS nA))) (h4 : Γ[4]? = some (.g (refS jA))) (hq : Γ[q]? = some (.g (refS oA))) (hq2 : q ≠ 2) (b3 : LB K B nA (ns.map PyData.str)) (b4 : LB K B jA (js.map Job.data)) (bq : LB K B oA (od.map odD)) (hl : limOk lim) (t : Tr ns js od tr) (ok : okT lim tr (ns.length + od.length)) :
    SemP B 2 K Γ (tCall (spF K (pr_led K)) [] E (tCons te (tCons (tVar 3) (tCons (tVar 4) (tCons (tVar q) tNil))))) (fun r => r = .g (LedR K lim (tr (ns.length + od.length)) (ns.length + od.length) (topT tr (ns.length + od.length)))) :=
  semp_callF (sempa_led h h3 h4 hq hq2 b3 b4 bq) fun rs e => ⟨_, ⟨lim, ns, js, od, tr, e, hl, t, .inl ⟨ok, rfl⟩⟩, rfl, fun xs z => by cases z⟩
theorem semp_ledN {q : Nat} {tr : Nat → JD} (h : SemP B 2 K Γ te (fun r => r = .d (.int lim))) (h3 : Γ[3]? = some (.g (refS nA))) (h4 : Γ[4]? = some (.g (refS jA))) (hq : Γ[q]? = some (.g (refS oA))) (hq2 : q ≠ 2) (b3 : LB K B nA (ns.map PyData.str)) (b4 : LB K B jA (js.map Job.data)) (bq : LB K B oA (od.map odD)) (hl : limOk lim) (t : Tr ns js od tr) (no : ¬ okT lim tr (ns.length + od.length)) :
    SemP B 2 K Γ (tCall (spF K (pr_led K)) [] E (tCons te (tCons (tVar 3) (tCons (tVar 4) (tCons (tVar q) tNil))))) (fun r => r = .d .none) :=
  semp_callF (sempa_led h h3 h4 hq hq2 b3 b4 bq) fun rs e => ⟨_, ⟨lim, ns, js, od, tr, e, hl, t, .inr ⟨no, rfl⟩⟩, rfl, fun xs z => by cases z⟩
/-- a, b = e, f: two things -/
theorem bp_asgPair {i j p : Nat} {ta tb : TE} {R1 R2 : Hp → V → Prop} (ha : SemP B p K Γ ta (fun r => r = .g R1)) (hb : SemP B p K Γ tb (fun r => r = .g R2)) (hip : i ≠ p) (hjp : j ≠ p) (hn : nx ((Γ.set i (.g R1)).set j (.g R2))) :
    BP B p K Γ (tAsg (tTup (tCons ta (tCons tb tNil))) (gTup K 2 (gCons (gName i) (gCons (gName j) gNil)))) post nx := fun H0 z D b e σ H s =>
  ha H0 σ H z _ b s fun v H1 r1 hr1 e1 s1 a1 => hb H0 σ H1 z _ b s1 fun w H2 r2 hr2 e2 s2 a2 => by
    subst hr1 hr2
    refine ⟨(show 2 ≤ sizeLine by decide), fun c hc => ?_⟩
    have sm : Same H2 (upd H2 c (.tup [v, w])) := same_new hc
    have f1 : Fst R1 H1 v := a1.1
    have f2 : Fst R2 H2 w := a2.1
    exact ps_pair (r1 := .g R1) (r2 := .g R2) (s2.mono sm) upd_same hip hjp ⟨Fst.mono (NL.trans e2.nl (NL.of sm)) f1, fun z => by cases z⟩ ⟨Fst.mono (NL.of sm) f2, fun z => by cases z⟩ (fun xs z => by cases z) (fun xs z => by cases z) fun s' _ => e.2 _ _ _ hn s'
theorem sh_jobs {js : List Job} (h : ∀ j ∈ js, j.depth ≤ 12) : SeqAt.shaped (.list (js.map Job.data)) = true := by
  have h1 : ∀ js : List Job, (∀ j ∈ js, j.depth ≤ 12) → PyData.canLayAll0 (js.map Job.data) = true ∧ PyData.depthAll (js.map Job.data) ≤ 24 := by
    intro js
    induction js with
    | nil => intro _; exact ⟨rfl, Nat.zero_le _⟩
    | cons j js ih =>
      intro h
      obtain ⟨a, b⟩ := ih fun x hx => h x (List.mem_cons_of_mem _ hx)
      have c := depth_data j
      have d := h j List.mem_cons_self
      refine ⟨?_, ?_⟩
      · rw [List.map_cons]
        simp only [PyData.canLayAll0, lay_data, a, Bool.true_and]
      · rw [List.map_cons]
        simp only [PyData.depthAll]
        omega
  obtain ⟨a, b⟩ := h1 js h
  unfold SeqAt.shaped
  simp only [PyData.canLay0, a, PyData.depth, Bool.true_and, Bool.and_true]
  exact decide_eq_true (by omega)
theorem eqv_jobs (js : List Job) : PyData.eqv (.list (js.map Job.data)) (.list (js.map Job.data)) = true := by
  have h1 : ∀ js : List Job, PyData.eqvAll (js.map Job.data) (js.map Job.data) = true := by
    intro js
    induction js with
    | nil => rfl
    | cons j js ih =>
      rw [List.map_cons]
      simp only [PyData.eqvAll, ih, Bool.and_true]
      rw [eqv_job]
      exact decide_eq_true rfl
  simp only [PyData.eqv, h1]
theorem rvd_neJ {js : List Job} (h : ∀ j ∈ js, j.depth ≤ 12) : RvD K (rNeD K) (.l (js.map Job.data)) (.l (js.map Job.data)) (.d (.bool false)) := fun H v w Q a b q => by
  have := rvd_neL (K := K) (ds := js.map Job.data) (es := js.map Job.data) (sh_jobs h) (sh_jobs h) H v w Q a b
  rw [eqv_jobs] at this
  exact this q
end
end RP
end
section
set_option autoImplicit false
set_option maxHeartbeats 4000000
namespace RP
open PySem PySem.Spec PyProof.Rows L2
structure NmsG (ns : List Str) : Prop where
  lo : 1 ≤ ns.length
  hi : ns.length ≤ 4
  nd : ns.Nodup
  srt : ns.Pairwise sle
  nm : ∀ n ∈ ns, NmOk n
theorem letters : ∀ c, c < 26 → c + 97 ∈ ("abcdefghijklmnopqrstuvwxyz" : Str).cps.toList := by decide +kernel
theorem nmsG_of {ys : List Str} {nl : List (List Nat)} (h : ys.Perm (nl.map nmS)) (hs : sortedS ys = true) (ok : NmsOk nl) (lo : 1 ≤ nl.length) (hi : nl.length ≤ 4) : NmsG ys := by
  have hl : ys.length = nl.length := by rw [h.length_eq, List.length_map]
  refine ⟨by omega, by omega, h.nodup_iff.mpr ?_, sorted_pw hs, fun n hn => ?_⟩
  · have := ok.nd
    refine List.pairwise_map.mpr (this.imp fun {a b} hab e => hab (nmS_inj e))
  · obtain ⟨cs, hcs, rfl⟩ := List.mem_map.mp (h.mem_iff.mp hn)
    have l := ok.len cs hcs
    refine ⟨by rw [nmS_len]; exact l.1, by rw [nmS_len]; exact l.2, fun c hc => ?_⟩
    have e : (nmS cs).cps.toList = cs.map (· + 97) := by unfold nmS; simp
    rw [e] at hc
    obtain ⟨x, hx, rfl⟩ := List.mem_map.mp hc
    exact letters x (ok.low cs hcs x hx)
section
variable {K : PySem.W.Frag} {B H0 H : Hp} {Γ : List Sl} {σ : L2.St} {z : Addr} {te : TE} {E E' : XK} {nA jA rv sA : Addr} {kk : Sl} {ns : List Str} {js : List Job} {post : Rk → Prop} {nx : List Sl → Prop} {D : Ends}
theorem semp_draw2 {m : Int} (h : 0 < m) (h2 : m < 1073741824) (ht : SemP B 2 K Γ te (IntP fun x => x = m)) : SemP B 2 K Γ (tCall (spP K pr_draw) [] E (tCons (tVar 2) (tCons te tNil))) (InR m) :=
  semp_call (sempa_cons ht sempa_nil) fun rs ⟨r, rs', ⟨x, e1, hx⟩, e2, e⟩ => ⟨InR m, ⟨m, by rw [e, e1, e2, hx], h, h2, rfl⟩, fun _ h => h⟩
theorem law_names : SemP B 2 K Γ (tCB (rSortedS K) (tCons (tCall (spP K pr_drawn_names) [] E (tCons (tVar 2) (tCons (tOp (rI0 fun i j => .int (i + j)) (tC (.int 1)) (tCall (spP K pr_draw) [] E' (tCons (tVar 2) (tCons (tC (.int 4)) tNil)))) tNil))) tNil)) (fun r => ∃ ns, r = .l (ns.map PyData.str) ∧ NmsG ns) := by
  refine (semp_sortedS (C := fun ns => ∃ nl, ns = nl.map nmS ∧ NmsOk nl ∧ 1 ≤ nl.length ∧ nl.length ≤ 4) (semp_call (PA1 := fun rs => ∃ m : Nat, rs = [.d (.int (m : Int))] ∧ 1 ≤ m ∧ m ≤ 4) ((sempa_cons (semp_add (A := fun x => 1 ≤ x ∧ x ≤ 4) (A1 := fun x => x = 1) (A3 := fun x => 0 ≤ x ∧ x < 4) semp_int (semp_draw2 (by decide) (by decide) semp_int) fun x y e h => by omega) sempa_nil).mono fun rs ⟨r, rs', ⟨x, e1, h1, h2⟩, e2, e⟩ => ⟨x.toNat, by rw [e, e1, e2, Int.toNat_of_nonneg (by omega)], by omega, by omega⟩) fun rs ⟨m, e, h1, h2⟩ => ⟨_, ⟨m, e, h2, rfl⟩, fun r ⟨nl, e3, e4, ok⟩ => ⟨nl.map nmS, by rw [e3, List.map_map]; rfl, nl, rfl, ok, by omega, by omega⟩⟩) fun ns ⟨nl, e, _, _, h⟩ => by rw [e, List.length_map]; omega).mono fun r ⟨ys, ns, e, ⟨nl, e2, ok, lo, hi⟩, hp, hs⟩ => ⟨ys, e, nmsG_of (by rw [← e2]; exact hp) hs ok lo hi⟩
theorem law_jobs (hb : LB K B nA (ns.map PyData.str)) (hn : ns.length ≤ 4) : BP B 2 K [.g (refS sA), kk, .un, .g (refS nA), .l [], .un, .un, .un, .un, .un, .un, .un, .un, .un, .un, .un, .un, .un, .un]
    (tFor (iList K (tVar 3)) (gName 5) (tDrop (tBM K "list" rAppend (tVar 4) (tCons (tOp (rIxL K) (tLst (tCons (tCall (spP K (pr_drawn_job 3)) [] E (tCons (tVar 2) (tCons (tC (.int 6)) (tCons (tC (.int 3)) tNil)))) (tCons (tCall (spP K (pr_great_job 3)) [] E (tCons (tVar 2) (tCons (tC (.int 3)) (tCons (tC (.int 2)) tNil)))) tNil))) (tCall (spP K pr_draw) [] E' (tCons (tVar 2) (tCons (tC (.int 2)) tNil)))) tNil))))
    post (fun Γ1 => ∃ (js : List Job) (s5 : Sl), Γ1 = [.g (refS sA), kk, .un, .g (refS nA), .l (js.map Job.data), s5, .un, .un, .un, .un, .un, .un, .un, .un, .un, .un, .un, .un, .un] ∧ js.length = ns.length ∧ ∀ j ∈ js, Held 4 j) := by
  obtain ⟨vs, h1, h2⟩ := hb
  have hl := h2.length
  rw [List.length_map] at hl
  refine bp_forW vs.length (fun i _ v => vs[i]? = some v) (fun k Γ1 => ∃ (js : List Job) (s5 : Sl), Γ1 = [.g (refS sA), kk, .un, .g (refS nA), .l (js.map Job.data), s5, .un, .un, .un, .un, .un, .un, .un, .un, .un, .un, .un, .un, .un] ∧ js.length = k ∧ ∀ j ∈ js, Held 4 j)
    (fun H0 σ H z b s R qq => hiB_list s b h1 (s.varR (by decide) rfl) R qq) ⟨[], _, rfl, rfl, fun _ h => by cases h⟩ (fun k v Γ1 H0 σ G z hk b hI s hy C hc => ?_) fun Γ1 ⟨js, s5, e, hl2, hh⟩ => ⟨js, s5, e, by omega, hh⟩
  obtain ⟨js, s5, rfl, hjl, hh⟩ := hI
  obtain ⟨x, hx, hd⟩ := h2.at hy
  refine hc _ _ (s.store (i := 5) (r := .d x) (v := v) ⟨Dt.keep (TK.of (b.trans s.base)) hd, fun z => by cases z⟩ (by decide) fun xs e => by cases e) ?_
  refine bp_append (P := DatP (RJD 2)) (i := 4) (xs := js.map Job.data) rfl (by decide) (semp_ixL (n := 2) (semp_lstD (sempa_consD (semp_call (P := DatP (RJD 2)) (PA1 := fun rs => rs = [.d (.int 6), .d (.int (((2 : Nat) : Int) + 1))]) ((sempa_cons semp_int (sempa_cons semp_int sempa_nil)).mono fun rs ⟨r, rs', ⟨x, e1, h1⟩, ⟨r2, rs2, ⟨x2, e3, h3⟩, e4, e5⟩, e⟩ => by rw [e, e5, e4, e3, e1, h1, h3]; rfl) fun rs e => ⟨_, ⟨6, 2, e, by decide, by decide, by decide, by decide, rfl⟩, fun _ h => h⟩)
    (sempa_consD (semp_call (P := DatP (RJD 2)) (PA1 := fun rs => rs = [.d (.int (((2 : Nat) : Int) + 1)), .d (.int 2)]) ((sempa_cons semp_int (sempa_cons semp_int sempa_nil)).mono fun rs ⟨r, rs', ⟨x, e1, h1⟩, ⟨r2, rs2, ⟨x2, e3, h3⟩, e4, e5⟩, e⟩ => by rw [e, e5, e4, e3, e1, h1, h3]; rfl) fun rs e => ⟨_, ⟨2, 2, e, by decide, by decide, rfl⟩, fun _ h => h⟩) sempa_nilD)) (by decide)) (semp_draw2 (m := 2) (by decide) (by decide) semp_int)) (by rw [List.length_map]; omega) fun r ⟨y, e, j, ej, hj⟩ => ⟨y, e, js ++ [j], .d x, by subst ej; rw [List.map_append]; rfl, by rw [List.length_append, hjl]; rfl, fun i hi => ?_⟩
  rw [List.mem_append, List.mem_singleton] at hi
  rcases hi with hi | rfl
  · exact hh i hi
  · exact hj.held
/-- what stands of the rows, the new list at D -/
def RowK (K : PySem.W.Frag) (js : List Job) (z D : Addr) (G : Hp) (acc : List V) (rows : List RowT) : Prop :=
  ∀ (k : Nat) (r : RowT), rows[k]? = some r → (∃ j, js[k]? = some j ∧ Run j r.1 r.2.1 r.2.2 ∧ r.1.length ≤ 4) ∧ ∃ (a L : Addr) (lv : V) (ws : List V), acc[k]? = some (V.ref a) ∧ L ≠ z ∧ L ≠ D ∧ G a = some (.tup [.ref L, lv, .int r.2.2]) ∧ G L = some (.lst ws) ∧ DtL K G ws (r.1.map adD) ∧ Dt K G lv r.2.1.data
theorem RowK.keep {D : Addr} {G G' : Hp} {acc : List V} {rows : List RowT} (k : KZ z D G G') (h : RowK K js z D G acc rows) : RowK K js z D G' acc rows := fun i r hr => by
  obtain ⟨h1, a, L, lv, ws, g1, g2, g3, g4, g5, g6, g7⟩ := h i r hr
  exact ⟨h1, a, L, lv, ws, g1, g2, g3, k.tk _ _ g4, k.keep _ _ g2 g3 g5, DtL.keep k.tk g6, Dt.keep k.tk g7⟩
theorem law_rows (s : PS K H0 Γ 2 σ H z) (b : Same B H0) (hb : LB K B jA (js.map Job.data)) (h4 : Γ[4]? = some (.g (refS jA))) (hΓ : Γ.length = 19) (hl : js.length ≤ 4) (hh : ∀ j ∈ js, Held 4 j)
    (q : ∀ (G : Hp) (Da : Addr) (rows : List RowT), SZ z H G → PS K H0 (Γ.set 6 (.g (refS Da))) 2 (σ.set 6 (some (.ref Da))) G z → RowsL K (delH z G) Da rows → rows.length = js.length → (∀ (a : Nat) (j : Job) (r : RowT), js[a]? = some j → rows[a]? = some r → Run j r.1 r.2.1 r.2.2 ∧ r.1.length ≤ 4) → D.nx (σ.set 6 (some (.ref Da))) G) :
    tAsg (tLc (iList K (tVar 4)) (gName 14) tYes (tCall (spRow K) [] E (tCons (tVar 2) (tCons (tVar 14) tNil))) [14]) (gName 6) D σ H := by
  obtain ⟨jvs, h1, h2⟩ := hb
  have hjl := h2.length
  rw [List.length_map] at hjl
  refine ps_lc (n := jvs.length) (Y := fun i _ v => jvs[i]? = some v) (W := fun Da i G acc => acc.length = i ∧ ∃ rows : List RowT, rows.length = i ∧ RowK K js z Da G acc rows) s (by decide) (by omega) (fun R qq => hi_list s b h1 (fun Q hQ => ⟨_, s.varR (by decide) h4, hQ⟩) R qq) (fun _ _ => ⟨rfl, [], rfl, fun k r h => by simp at h⟩) (fun Da i G G' acc k h => ?_) (fun Da i v G acc hin hD hDz hacc hy sz hw sw C hc => ?_) (fun Da acc G hD hacc hlen sz s' hDz hw => ?_)
  · obtain ⟨e, rows, hr, hk⟩ := h
    exact ⟨e, rows, hr, hk.keep k⟩
  · obtain ⟨x, hx, hd⟩ := h2.at hy
    rw [List.getElem?_map] at hx
    obtain ⟨j, hj, rfl⟩ := Option.map_eq_some_iff.mp hx
    obtain ⟨el, rows, hrl, hk⟩ := hw
    have hdG : Dt K G v j.data := Dt.keep (TK.trans (TK.of (b.trans s.base)) sz.tk) hd
    have s3 := sw.store (i := 14) (r := .d j.data) (v := v) ⟨hdG, fun z => by cases z⟩ (by decide) fun xs e => by cases e
    have hlen : (wipe σ [14]).length = 19 := by
      obtain ⟨i0, j0, k0, rp⟩ := sw.ex
      have := rp.len
      rw [List.length_set, wipeS_len, hΓ] at this
      exact this
    refine hc _ (wipe_dif (js := [14]) ⟨List.length_set, fun k hk => List.getElem?_set_ne fun e => hk (by simp [e])⟩ (fun k hk => hk)) fun C2 C3 h2' h3' => ?_
    refine (show ∀ (σ : L2.St) (Q : Bool → Hp → Prop), Q true G → tYes σ G Q from fun _ _ q => q) _ _ ?_
    refine iteT ?_
    refine ⟨_, s3.hz, v, List.getElem?_set_self (by rw [hlen]; decide), z, v, j, rfl, s3.at.1, hdG, hh j (List.mem_of_getElem? hj), fun u H' cs j2 h run hcl szr pzr row => h2' u H' szr pzr ⟨by rw [List.length_append, el]; rfl, rows ++ [(cs, j2, h)], by rw [List.length_append, hrl]; rfl, fun k r hr => ?_⟩⟩
    have hjk : i = rows.length := hrl.symm
    by_cases hkl : k < rows.length
    · rw [List.getElem?_append_left hkl] at hr
      obtain ⟨g0, a, L, lv, ws, g1, g2, g3, g4, g5, g6, g7⟩ := hk k r hr
      refine ⟨g0, a, L, lv, ws, by rw [List.getElem?_append_left (by omega)]; exact g1, g2, g3, szr.tk _ _ g4, szr.keep _ _ g2 g5, DtL.keep szr.tk g6, Dt.keep szr.tk g7⟩
    · have hkb := (List.getElem?_eq_some_iff.mp hr).1
      rw [List.length_append, List.length_singleton] at hkb
      have ek : k = rows.length := by omega
      subst ek
      rw [List.getElem?_append_right (Nat.le_refl _), Nat.sub_self] at hr
      have er : (cs, j2, h) = r := by simpa using hr
      subst er
      obtain ⟨a, L, lv, ws, e1, e2, e3, e4, e5, e6⟩ := (row H' (SZ.refl pzr)).ex
      refine ⟨⟨j, by rw [← hjk]; exact hj, run, hcl⟩, a, L, lv, ws, ?_, ?_, ?_, e2, e4, e5, e6⟩
      · rw [List.getElem?_append_right (by omega), show rows.length - acc.length = 0 by omega, e1]
        rfl
      · rintro rfl
        obtain ⟨_, _, _, hz⟩ := s3.at.1
        rw [hz] at e3
        cases e3
      · rintro rfl
        rw [hacc] at e3
        cases e3
  · obtain ⟨el, rows, hrl, hk⟩ := hw
    refine q G Da rows sz (s'.store (i := 6) (r := .g (refS Da)) (v := .ref Da) ⟨fun _ _ => rfl, fun z => by cases z⟩ (by decide) fun xs e => by cases e) ⟨acc, by rw [delH_ne hDz]; exact hacc, by omega, fun k r hr => ?_⟩ (by omega) fun a j r hj hr => ?_
    · obtain ⟨g0, a, L, lv, ws, g1, g2, g3, g4, g5, g6, g7⟩ := hk k r hr
      have tk := delH_tk s'.at.1
      exact ⟨a, L, lv, ws, g1, tk _ _ g4, by rw [delH_ne g2]; exact g5, DtL.keep tk g6, Dt.keep tk g7⟩
    · obtain ⟨⟨j', e1, e2⟩, _⟩ := hk a r hr
      rw [hj] at e1
      cases e1
      exact e2
end
end RP
end
section
set_option autoImplicit false
set_option maxHeartbeats 4000000
namespace RP
open PySem PySem.Spec PyProof.Rows L2
section
variable {K : PySem.W.Frag} {B H0 H : Hp} {Γ : List Sl} {σ : L2.St} {z : Addr} {te : TE} {E E' : XK} {nA jA rv sA : Addr} {kk : Sl} {ns : List Str} {js : List Job} {rows : List RowT} {post : Rk → Prop} {nx : List Sl → Prop} {D : Ends}
theorem rowsC_at {k : Nat} {r : RowT} (h : rows[k]? = some r) : (rowsC rows)[k]? = some r.1 := by
  unfold rowsC
  rw [List.getElem?_map, h]
  rfl
theorem law_plain (hr : RowsL K B rv rows) (hl : rows.length ≤ 4) (hc4 : ∀ cs ∈ rowsC rows, cs.length ≤ 4) : BP B 2 K [.g (refS sA), kk, .un, .g (refS nA), .g (refS jA), .un, .g (refS rv), .l [], .un, .un, .un, .un, .un, .un, .un, .un, .un, .un, .un]
    (tFor (iEnum K (tCons (tVar 6) tNil)) (gTup K 2 (gCons (gName 8) (gCons (gName 9) gNil))) (tDrop (tBM K "list" rExtend (tVar 7) (tCons (tLc (iList K (tOp (rIxT K) (tVar 9) (tC (.int 0)))) (gName 15) tYes (tTup (tCons (tVar 8) (tCons (tVar 15) tNil))) [15]) tNil))))
    post (fun Γ1 => ∃ s8 s9 : Sl, Γ1 = [.g (refS sA), kk, .un, .g (refS nA), .g (refS jA), .un, .g (refS rv), .l ((plOd (rowsC rows) rows.length).map odD), s8, s9, .un, .un, .un, .un, .un, .un, .un, .un, .un]) := by
  obtain ⟨rvs, h1, h2, h3⟩ := hr
  refine bp_forW rvs.length (fun i G v => YEn rvs i G v) (fun k Γ1 => ∃ s8 s9 : Sl, Γ1 = [.g (refS sA), kk, .un, .g (refS nA), .g (refS jA), .un, .g (refS rv), .l ((plOd (rowsC rows) k).map odD), s8, s9, .un, .un, .un, .un, .un, .un, .un, .un, .un])
    (fun H0 σ H z b s R qq => hiB_enum s b h1 (s.varR (by decide) rfl) R qq) ⟨_, _, rfl⟩ (fun k v Γ1 H0 σ G z hk b hI s hy C hc => ?_) fun Γ1 ⟨s8, s9, e⟩ => ⟨s8, s9, by rw [e, h2]⟩
  obtain ⟨s8, s9, rfl⟩ := hI
  obtain ⟨Ta, x, rfl, hT, hx⟩ := hy
  have hkr : rows[k]? = some (rows[k]'(by omega)) := List.getElem?_eq_getElem _
  generalize rows[k]'(by omega) = r at hkr
  obtain ⟨a, L, lv, ws, g1, g2, g3, g4, g5⟩ := h3 k r hkr
  rw [hx] at g1
  cases g1
  refine ps_pair (r1 := .d (.int (k : Nat))) (r2 := .g (refS a)) s hT (by decide) (by decide) ⟨.int _, fun z => by cases z⟩ ⟨fun _ _ => rfl, fun z => by cases z⟩ (fun xs z => by cases z) (fun xs z => by cases z) fun s2 _ => hc _ _ s2 ?_
  have hcl : r.1.length ≤ 4 := hc4 r.1 (List.mem_of_getElem? (rowsC_at hkr))
  have hpl := plOd_len (rowsC rows) hc4 k
  have hwl := g4.length
  rw [List.length_map] at hwl
  have lc := semp_lcW (B := B) (p := 2) (K := K) (Γ := [.g (refS sA), kk, .un, .g (refS nA), .g (refS jA), .un, .g (refS rv), .l ((plOd (rowsC rows) k).map odD), .d (.int (k : Nat)), .g (refS a), .un, .un, .un, .un, .un, .un, .un, .un, .un]) (wi := iList K (tOp (rIxT K) (tVar 9) (tC (.int 0)))) (g := gName 15) (tt := tYes) (te := tTup (tCons (tVar 8) (tCons (tVar 15) tNil))) (vs := [15]) ws.length (fun i _ v => ws[i]? = some v) [15] (fun i => (r.1[i]?).map fun c => odD (k, c)) (by decide) (by omega) (fun j hj => hj)
    (fun H0 σ H z b s R qq => hi_list s b g3 (fun Q hQ => ⟨_, s.varR (q := 9) (by decide) rfl, a, _, 0, .ref L, rfl, rfl, .inl (.inl (s.base_ne b g2).2), rfl, hQ⟩) R qq) (fun i hi H0 σ G z v b hy s C hc => by
      obtain ⟨d, hd1, hd2⟩ := g4.at hy
      rw [List.getElem?_map] at hd1
      obtain ⟨c, hcc, rfl⟩ := Option.map_eq_some_iff.mp hd1
      refine hc _ _ (s.store (i := 15) (r := .d (adD c)) (v := v) ⟨Dt.keep (TK.of (b.trans s.base)) hd2, fun z => by cases z⟩ (by decide) fun xs e => by cases e) ⟨List.length_set, fun j hj => List.getElem?_set_ne fun e => hj (by simp [e])⟩ (.inl ⟨odD (k, c), by rw [hcc]; rfl, fun H0 σ H z Q _ s q => q true H rfl (SZ.refl s.at.1) s, ?_⟩)
      exact semp_tup (PA1 := fun rs => rs = [.d (.int (k : Nat)), .d (adD c)]) ((sempa_cons (semp_varD (x := .int (k : Nat)) (by decide) rfl) (sempa_cons (semp_varD (x := adD c) (by decide) rfl) sempa_nil)).mono fun rs ⟨r1, rs1, e1, ⟨r2, rs2, e2, e3, e4⟩, e5⟩ => by rw [e5, e4, e3, e2, e1]) fun rs e => ⟨[.int (k : Nat), adD c], e, by simp, rfl⟩)
  rw [hwl, range_fm] at lc
  refine bp_extend (i := 7) (xs := (plOd (rowsC rows) k).map odD) rfl (by decide) lc fun r' e => ⟨_, e, by rw [List.length_map, List.length_map]; omega, .d (.int (k : Nat)), .g (refS a), ?_⟩
  rw [plOd, rowsC_at hkr, List.map_append, List.map_map]
  rfl
theorem law_mixed (s : PS K H0 Γ 2 σ H z) (b : Same B H0) (hr : RowsL K B rv rows) (h6 : Γ[6]? = some (.g (refS rv))) (hΓ : Γ.length = 19) (hl : rows.length ≤ 4) (hc4 : ∀ cs ∈ rowsC rows, cs.length ≤ 4)
    (q : ∀ (G : Hp) (v : V) (od : List (Nat × List Nat)), Ord (rowsC rows) (lensL (rowsC rows)) od → PS K H0 (Γ.set 10 (.l (od.map odD))) 2 (σ.set 10 (some v)) G z → D.nx (σ.set 10 (some v)) G) :
    tAsg (tCall (spMix K) [] E (tCons (tVar 2) (tCons (tLc (iList K (tVar 6)) (gName 9) tYes (tOp (rIxT K) (tVar 9) (tC (.int 0))) [9]) tNil))) (gName 10) D σ H := by
  obtain ⟨rvs, h1, h2, h3⟩ := hr
  have hlen : ∀ {G : Hp} {Γ' : List Sl} {σ' : L2.St}, PS K H0 Γ' 2 σ' G z → Γ'.length = 19 → σ'.length = 19 := fun s hΓ => by
    obtain ⟨i0, j0, k0, rp⟩ := s.ex
    have := rp.len
    rw [List.length_set, hΓ] at this
    exact this
  refine ⟨_, s.hz, ?_⟩
  refine ps_lc (n := rvs.length) (Y := fun i _ v => rvs[i]? = some v) (W := fun _ i _ acc => acc.length = i ∧ ∀ (k : Nat) (r : RowT), k < i → rows[k]? = some r → ∃ (L : Addr) (ws : List V), acc[k]? = some (V.ref L) ∧ B L = some (.lst ws) ∧ DtL K B ws (r.1.map adD)) s (by decide) (by omega) (fun R qq => hi_list s b h1 (fun Q hQ => ⟨_, s.varR (by decide) h6, hQ⟩) R qq) (fun _ _ => ⟨rfl, fun k r hk => absurd hk (by omega)⟩) (fun _ _ _ _ _ _ h => h) (fun Da i v G acc hin hD hDz hacc hy sz hw sw C hc => ?_) (fun Da acc G hD hacc hlen sz s' hDz hw => ?_)
  · obtain ⟨el, hk⟩ := hw
    have hir : rows[i]? = some (rows[i]'(by omega)) := List.getElem?_eq_getElem _
    generalize rows[i]'(by omega) = r at hir
    obtain ⟨a, L, lv, ws, g1, g2, g3, g4, g5⟩ := h3 i r hir
    rw [hy] at g1
    cases g1
    refine hc _ (wipe_dif (js := [9]) ⟨List.length_set, fun k hk => List.getElem?_set_ne fun e => hk (by simp [e])⟩ (fun k hk => hk)) fun C2 C3 h2' h3' => ?_
    refine (show ∀ (σ : L2.St) (Q : Bool → Hp → Prop), Q true G → tYes σ G Q from fun _ _ q => q) _ _ ?_
    refine iteT ?_
    refine ⟨_, List.getElem?_set_self (by rw [hlen sw (by rw [wipeS_len, hΓ])]; decide), a, _, 0, .ref L, rfl, rfl, .inl (.inl (sw.base_ne b g2).2), rfl, h2' (.ref L) G (SZ.refl sw.at.1) sw.at.1 ⟨by rw [List.length_append, el]; rfl, fun k r' hkl hr' => ?_⟩⟩
    by_cases hki : k < i
    · obtain ⟨L', ws', e1, e2, e3⟩ := hk k r' hki hr'
      exact ⟨L', ws', by rw [List.getElem?_append_left (by omega)]; exact e1, e2, e3⟩
    · have ek : k = i := by omega
      subst ek
      rw [hir] at hr'
      cases hr'
      exact ⟨L, ws, by rw [List.getElem?_append_right (by omega), show k - acc.length = 0 by omega]; rfl, g3, g4⟩
  · obtain ⟨el, hk⟩ := hw
    have ub : Same B (delH z G) := b.trans s'.under
    refine ⟨z, Da, rowsC rows, rfl, s'.at.1, ⟨acc, by rw [delH_ne hDz]; exact hacc, by unfold rowsC; rw [List.length_map]; omega, fun i cs hcs => ?_⟩, by unfold rowsC; rw [List.length_map]; exact hl, hc4, fun v H' od ho szr pzr a => ?_⟩
    · unfold rowsC at hcs
      rw [List.getElem?_map] at hcs
      obtain ⟨r, hr1, rfl⟩ := Option.map_eq_some_iff.mp hcs
      have hb := (List.getElem?_eq_some_iff.mp hr1).1
      obtain ⟨L, ws, e1, e2, e3⟩ := hk i r (by omega) hr1
      exact ⟨L, ws, e1, ub _ _ e2, DtL.keep (TK.of ub) e3⟩
    · exact q H' v od ho (s'.put (s'.over szr pzr) a (by decide))
end
end RP
end
section
set_option autoImplicit false
set_option maxHeartbeats 4000000
namespace RP
open PySem PySem.Spec PyProof.Rows L2
abbrev rIsN : R2 := fun x y H Q => y = .non ∧ Q (.bl (decide (x = .non))) H
abbrev rNotN : R2 := fun x y H Q => y = .non ∧ Q (.bl (!decide (x = .non))) H
abbrev kLed (K : PySem.W.Frag) (te : TE) (q : Nat) : TE := tCall (spF K (pr_led K)) [] E0 (tCons te (tCons (tVar 3) (tCons (tVar 4) (tCons (tVar q) tNil))))
abbrev kN (i : Nat) : TT := tTest (tOp rIsN (tVar i) (tC .non))
abbrev k0 (K : PySem.W.Frag) (i : Nat) : TE := tOp (rIxT K) (tVar i) (tC (.int 0))
abbrev k1 (K : PySem.W.Frag) (i : Nat) : TE := tOp (rIxT K) (tVar i) (tC (.int 1))
abbrev kP : TE := tOp (rI CPow fun i j => .int (i ^ j.toNat)) (tC (.int 10)) (tC (.int 60))
abbrev kEq (K : PySem.W.Frag) (a b : TE) : TT := tNot (tTest (tOp (rEqG (DIns (He.ga K "Keeper") (RKeep K))) a b))
abbrev kNeed (K : PySem.W.Frag) (a : TE) : TE := tMeth (He.ga K "Keeper") "need" (spF K (pr_k_need (K := K))) [] E0 a tNil
abbrev kUse (K : PySem.W.Frag) (a : TE) : TE := tMeth (He.ga K "Keeper") "usage" (spF K (pr_k_usage (K := K))) [] E0 a tNil
abbrev kRows (K : PySem.W.Frag) (te : TE) : TE := tLc (iList K (tVar 6)) (gTup K 3 (gCons (gName 16) (gCons (gName 17) (gCons (gName 18) gNil)))) tYes te [16, 17, 18]
abbrev kRem (K : PySem.W.Frag) : TE := tLc (iList K (tVar 3)) (gName 5) tYes (tMeth (He.ga K "Keeper") "remaining" (spF K (pr_k_remaining (K := K))) [] E0 (k0 K 11) (tCons (tVar 5) tNil)) [5]
def askT (K : PySem.W.Frag) : TS :=
  tSeq (tAsg (tTup (tCons (kLed K kP 7) (tCons (kLed K kP 10) tNil))) (gTup K 2 (gCons (gName 11) (gCons (gName 12) gNil))))
  (tSeq (tIfS (tOr (kN 11) (tOr (kN 12) (tOr (kEq K (k0 K 11) (k0 K 12)) (kEq K (k0 K 12) (k0 K 11))))) (tRet (tC (.bl false))) tNext)
  (tSeq (tIfS (tOr (tTest (tOp rNe (kNeed K (k0 K 11)) (kNeed K (k0 K 12)))) (tTest (tOp rNe (kUse K (k0 K 11)) (tCB (rSum K) (tCons (kRows K (tVar 18)) tNil))))) (tRet (tC (.bl false))) tNext)
  (tSeq (tIfS (tTest (tOp (rNeD K) (kRem K) (kRows K (tVar 17)))) (tRet (tC (.bl false))) tNext)
  (tSeq (tAsg (kLed K (tCB rMx (tCons (tC (.int 0)) (tCons (k1 K 12) tNil))) 10) (gName 13))
  (tSeq (tIfS (tOr (kN 13) (tTest (tOp (rNeD K) (k1 K 13) (k1 K 12)))) (tRet (tC (.bl false))) tNext)
    (tIfS (tAnd (tTest (tOp (rI0 fun i j => .bl (decide (j < i))) (k1 K 12) (tC (.int 0)))) (tTest (tOp rNotN (kLed K (tOp (rI0 fun i j => .int (i - j)) (k1 K 12) (tC (.int 1))) 10) (tC .non)))) (tRet (tC (.bl false))) tNext))))))
section
variable {K : PySem.W.Frag} {B : Hp} {Γ : List Sl} {nA jA rv sA pA mA : Addr} {kk : Sl} {ns : List Str} {js : List Job} {rows : List RowT} {post : Rk → Prop} {od1 od2 : List (Nat × List Nat)} {tr1 tr2 : Nat → JD} {S : Nat → Nat → Job × Int}
  {lim top : Int} {D : JD} {n : Nat}
theorem q_N {i : Nat} (hi : i ≠ 2) (h : Γ[i]? = some (.g (LedR K lim D n top))) : SemPT B 2 K Γ (kN i) (fun b => b = false) := sempt_B (P := fun r => r = .d (.bool false)) (semp_op (semp_varG hi h) (semp_d fun _ _ _ => sem_non) fun r1 r2 e1 e2 => ⟨_, rfl, fun xs z => (by cases z), by subst e1 e2; exact rvd_ledN⟩) fun r e => ⟨false, e, rfl⟩
theorem q_0 {i : Nat} (hi : i ≠ 2) (h : Γ[i]? = some (.g (LedR K lim D n top))) : SemP B 2 K Γ (k0 K i) (fun r => r = .g (KpAt K ⟨lim, D, n⟩)) := semp_op (semp_varG hi h) (semp_d fun _ _ _ => sem_int (i := 0)) fun r1 r2 e1 e2 => ⟨_, rfl, fun xs z => (by cases z), by subst e1 e2; exact rvd_led0⟩
theorem q_1 {i : Nat} (hi : i ≠ 2) (h : Γ[i]? = some (.g (LedR K lim D n top))) : SemP B 2 K Γ (k1 K i) (fun r => r = .d (.int top)) := semp_op (semp_varG hi h) (semp_d fun _ _ _ => sem_int (i := 1)) fun r1 r2 e1 e2 => ⟨_, rfl, fun xs z => (by cases z), by subst e1 e2; exact rvd_led1⟩
theorem q_eq {ta tb : TE} {S1 S2 : KS} (ha : SemP B 2 K Γ ta (fun r => r = .g (KpAt K S1))) (hb : SemP B 2 K Γ tb (fun r => r = .g (KpAt K S2))) (h1 : S1.lim = S2.lim) (h2 : S1.D = S2.D) (ok : JOk S1.D) : SemPT B 2 K Γ (kEq K ta tb) (fun b => b = false) :=
  (sempt_not (C := fun b => b = true) (sempt_B (P := fun r => r = .d (.bool true)) (semp_op ha hb fun r1 r2 e1 e2 => ⟨_, rfl, fun xs z => (by cases z), by subst e1 e2; exact rvd_eqK h1 h2 ok⟩) fun r e => ⟨true, e, rfl⟩)).mono fun b h => by
    cases b
    · rfl
    · cases h
theorem q_need {ta : TE} {S1 : KS} (ha : SemP B 2 K Γ ta (fun r => r = .g (KpAt K S1))) (ok : JOk S1.D) : SemP B 2 K Γ (kNeed K ta) (fun r => r = .d (.int (needD S1.D))) := semp_meth (by decide) ha sempa_nil fun rs e => ⟨_, ⟨S1, by rw [e], rfl, ok⟩, rfl, fun xs z => by cases z⟩
theorem q_use {ta : TE} {S1 : KS} (ha : SemP B 2 K Γ ta (fun r => r = .g (KpAt K S1))) (ok : JOk S1.D) : SemP B 2 K Γ (kUse K ta) (fun r => r = .d (.int (usageD S1.D))) := semp_meth (by decide) ha sempa_nil fun rs e => ⟨_, ⟨S1, by rw [e], rfl, by have := ok.len; omega⟩, rfl, fun xs z => by cases z⟩
theorem q_ne {ta tb : TE} {x : Int} (ha : SemP B 2 K Γ ta (fun r => r = .d (.int x))) (hb : SemP B 2 K Γ tb (fun r => r = .d (.int x))) : SemPT B 2 K Γ (tTest (tOp rNe ta tb)) (fun b => b = false) := sempt_B (P := fun r => r = .d (.bool false)) (semp_op ha hb fun r1 r2 e1 e2 => ⟨_, rfl, fun xs z => (by cases z), by
  subst e1 e2
  have := rvd_neI (K := K) (i := x) (j := x)
  rw [decide_eq_true rfl] at this
  exact this⟩) fun r e => ⟨false, e, rfl⟩
theorem q_neD {ta tb : TE} {x : Int} (ha : SemP B 2 K Γ ta (fun r => r = .d (.int x))) (hb : SemP B 2 K Γ tb (fun r => r = .d (.int x))) : SemPT B 2 K Γ (tTest (tOp (rNeD K) ta tb)) (fun b => b = false) := sempt_B (P := fun r => r = .d (.bool false)) (semp_op ha hb fun r1 r2 e1 e2 => ⟨_, rfl, fun xs z => (by cases z), by
  subst e1 e2
  exact rvd_neD' (x := .int x) (y := .int x) rfl rfl (by simp [PyData.eqv])⟩) fun r e => ⟨false, e, rfl⟩
theorem q_pow : SemP B 2 K Γ kP (fun r => r = .d (.int e60)) := (semp_pow ⟨by decide, by decide, by decide⟩).mono fun r ⟨x, e, h⟩ => by
  rw [e, h]
  have : (10 : Int) ^ (60 : Int).toNat = e60 := by decide +kernel
  rw [this]
theorem lim60 : limOk e60 := ⟨by decide +kernel, by decide +kernel⟩
theorem lim_of {i : Int} (h0 : 0 ≤ i) (h : i ≤ e60) : limOk i := ⟨h0, by have := lim60.2; omega⟩
theorem bp_no {t : TT} (h : SemPT B 2 K Γ t (fun b => b = false)) {nx : List Sl → Prop} (hn : nx Γ) : BP B 2 K Γ (tIfS t (tRet (tC (.bl false))) tNext) post nx := bp_if h (fun e => by cases e) fun _ => bp_next hn
theorem law_ask (cell : Cell ns js (rowsC rows) S) (hfin : (stD ns S (lensL (rowsC rows))).map (·.2) = rows.map (·.2)) (rl : rows.length = ns.length)
    (t1 : Tr ns js od1 tr1) (e1 : tr1 (ns.length + od1.length) = stD ns S (lensL (rowsC rows))) (t2 : Tr ns js od2 tr2) (e2 : tr2 (ns.length + od2.length) = stD ns S (lensL (rowsC rows)))
    (bN : LB K B nA (ns.map PyData.str)) (bJ : LB K B jA (js.map Job.data)) (bR : RowsL K B rv rows) (bP : LB K B pA (od1.map odD)) (bM : LB K B mA (od2.map odD)) :
    BP B 2 K [.g (refS sA), kk, .un, .g (refS nA), .g (refS jA), .un, .g (refS rv), .g (refS pA), .un, .un, .g (refS mA), .un, .un, .un, .un, .un, .un, .un, .un] (askT K) post (fun Γ1 => Γ1[0]? = some (.g (refS sA)) ∧ Γ1.length = 19) := by
  have nl := cell.nl
  have okF : JOk (stD ns S (lensL (rowsC rows))) := cell.ok (LeL.refl _)
  have l1 := semp_led (K := K) (B := B) (Γ := [.g (refS sA), kk, .un, .g (refS nA), .g (refS jA), .un, .g (refS rv), .g (refS pA), .un, .un, .g (refS mA), .un, .un, .un, .un, .un, .un, .un, .un]) (E := E0) (q := 7) q_pow rfl rfl rfl (by decide) bN bJ bP lim60 t1 t1.all
  have l2 := semp_led (K := K) (B := B) (Γ := [.g (refS sA), kk, .un, .g (refS nA), .g (refS jA), .un, .g (refS rv), .g (refS pA), .un, .un, .g (refS mA), .un, .un, .un, .un, .un, .un, .un, .un]) (E := E0) (q := 10) q_pow rfl rfl rfl (by decide) bN bJ bM lim60 t2 t2.all
  rw [e1] at l1
  rw [e2] at l2
  have ge := topT_ge tr2 (ns.length + od2.length)
  have le : topT tr2 (ns.length + od2.length) ≤ e60 := topT_le _ _ (by decide +kernel) t2.all
  have is := topT_is tr2 (ns.length + od2.length)
  have oks : okT (imax 0 (topT tr2 (ns.length + od2.length))) tr2 (ns.length + od2.length) := fun k h1 h2 => by
    have := ge.2 k h1 h2
    unfold imax
    split <;> omega
  have im : 0 ≤ imax 0 (topT tr2 (ns.length + od2.length)) ∧ imax 0 (topT tr2 (ns.length + od2.length)) ≤ e60 := by
    have := ge.1
    unfold imax
    split <;> omega
  have nopre : 0 < topT tr2 (ns.length + od2.length) → ¬ okT (topT tr2 (ns.length + od2.length) - 1) tr2 (ns.length + od2.length) := fun h o => by
    rcases is with z | ⟨k, h1, h2, h3⟩
    · omega
    · have := o k h1 h2
      omega
  have remK : ∀ m ∈ ns, NmOk m ∧ jget (stD ns S (lensL (rowsC rows))) m = some ((jget (stD ns S (lensL (rowsC rows))) m).getD (.step 0, 0)) := fun m hm => by
    obtain ⟨a, ha⟩ := List.getElem?_of_mem hm
    refine ⟨cell.nm m hm, ?_⟩
    have := okF.get (List.mem_of_getElem? (stD_at (S := S) (ps := lensL (rowsC rows)) ha))
    rw [show jget (stD ns S (lensL (rowsC rows))) m = _ from this]
    rfl
  have remE : (ns.map fun m => ((jget (stD ns S (lensL (rowsC rows))) m).getD (.step 0, 0)).1.data) = (rows.map fun r => r.2.1).map Job.data := by
    apply List.ext_getElem?
    intro a
    rw [List.getElem?_map, List.getElem?_map, List.getElem?_map]
    cases ha : ns[a]? with
    | none =>
      have := List.getElem?_eq_none_iff.mp ha
      rw [List.getElem?_eq_none_iff.mpr (by omega)]
      rfl
    | some m =>
      have hb := (List.getElem?_eq_some_iff.mp ha).1
      have h1 := stD_at (S := S) (ps := lensL (rowsC rows)) ha
      have h2 := okF.get (List.mem_of_getElem? h1)
      have h3 : ((stD ns S (lensL (rowsC rows))).map (·.2))[a]? = (rows.map (·.2))[a]? := by rw [hfin]
      rw [List.getElem?_map, h1, List.getElem?_map, List.getElem?_eq_getElem (by omega : a < rows.length)] at h3
      have h4 := Option.some.inj h3
      rw [List.getElem?_eq_getElem (by omega : a < rows.length)]
      show some ((jget (stD ns S (lensL (rowsC rows))) m).getD (.step 0, 0)).1.data = _
      rw [show jget (stD ns S (lensL (rowsC rows))) m = _ from h2]
      show some (S a ((lensL (rowsC rows))[a]?.getD 0)).1.data = some (rows[a]'(by omega)).2.1.data
      rw [show S a ((lensL (rowsC rows))[a]?.getD 0) = (rows[a]'(by omega)).2 from h4]
  have useE : usageD (stD ns S (lensL (rowsC rows))) = (rows.map fun r => r.2.2).sum := by
    have : (stD ns S (lensL (rowsC rows))).map (·.2.2) = rows.map fun r => r.2.2 := by
      have h := congrArg (List.map fun x : Job × Int => x.2) hfin
      rwa [List.map_map, List.map_map] at h
    unfold usageD
    rw [this]
  have deep : ∀ j ∈ rows.map (fun r => r.2.1), j.depth ≤ 12 := fun j hj => by
    obtain ⟨r, hr, rfl⟩ := List.mem_map.mp hj
    have hm : r.2 ∈ rows.map (·.2) := List.mem_map_of_mem hr
    rw [← hfin] at hm
    obtain ⟨e, he, e3⟩ := List.mem_map.mp hm
    obtain ⟨k, hh⟩ := okF.job e he
    have := hh.depth
    rw [← e3]
    omega
  unfold askT
  refine bp_seq (nx1 := fun Γ1 => Γ1 = [.g (refS sA), kk, .un, .g (refS nA), .g (refS jA), .un, .g (refS rv), .g (refS pA), .un, .un, .g (refS mA), .g (LedR K e60 (stD ns S (lensL (rowsC rows))) (ns.length + od1.length) (topT tr1 (ns.length + od1.length))), .g (LedR K e60 (stD ns S (lensL (rowsC rows))) (ns.length + od2.length) (topT tr2 (ns.length + od2.length))), .un, .un, .un, .un, .un, .un]) (bp_asgPair l1 l2 (by decide) (by decide) rfl) ?_
  rintro Γ1 rfl
  refine bp_seq (nx1 := fun Γ1 => Γ1 = _) (bp_no (sempt_orF (q_N (by decide) rfl) (sempt_orF (q_N (by decide) rfl) (sempt_orF (q_eq (q_0 (by decide) rfl) (q_0 (by decide) rfl) rfl rfl okF) (q_eq (q_0 (by decide) rfl) (q_0 (by decide) rfl) rfl rfl okF)))) rfl) ?_
  rintro Γ1 rfl
  refine bp_seq (nx1 := fun Γ1 => Γ1 = _) (bp_no (sempt_orF (q_ne (q_need (q_0 (by decide) rfl) okF) (q_need (q_0 (by decide) rfl) okF)) (q_ne (x := usageD (stD ns S (lensL (rowsC rows)))) (q_use (q_0 (by decide) rfl) okF) (semp_cb (sempa_cons (semp_rows (f := fun r => .int r.2.2) bR rfl rfl (by omega) fun Γ2 r h1 h2 => semp_varD (by decide) h2) sempa_nil) fun rs ⟨r, rs', q1, q2, q3⟩ => ⟨_, rfl, fun xs z => (by cases z), ?_⟩))) rfl) ?_
  · rw [q3, q1, q2]
    have e3 : rows.map (fun r => PyData.int r.2.2) = (rows.map fun r => r.2.2).map PyData.int := by rw [List.map_map]; rfl
    rw [e3]
    exact cvd_sum useE.symm
  rintro Γ1 rfl
  refine bp_seq (nx1 := fun Γ1 => Γ1 = _) (bp_no (sempt_B (P := fun r => r = .d (.bool false)) (semp_op (semp_remain (fun m => (jget (stD ns S (lensL (rowsC rows))) m).getD (.step 0, 0)) bN rfl rfl (by omega) rfl remK) (semp_rows (f := fun r => r.2.1.data) bR rfl rfl (by omega) fun Γ2 r h1 h2 => semp_varD (by decide) h1) fun r1 r2 q1 q2 => ⟨_, rfl, fun xs z => (by cases z), ?_⟩) fun r e => ⟨false, e, rfl⟩) rfl) ?_
  · rw [q1, q2, remE]
    have e3 : rows.map (fun r => r.2.1.data) = (rows.map fun r => r.2.1).map Job.data := by rw [List.map_map]; rfl
    rw [e3]
    exact rvd_neJ deep
  rintro Γ1 rfl
  refine bp_seq (nx1 := fun Γ1 => ∃ D n, Γ1 = [.g (refS sA), kk, .un, .g (refS nA), .g (refS jA), .un, .g (refS rv), .g (refS pA), .un, .un, .g (refS mA), .g (LedR K e60 (stD ns S (lensL (rowsC rows))) (ns.length + od1.length) (topT tr1 (ns.length + od1.length))), .g (LedR K e60 (stD ns S (lensL (rowsC rows))) (ns.length + od2.length) (topT tr2 (ns.length + od2.length))), .g (LedR K (imax 0 (topT tr2 (ns.length + od2.length))) D n (topT tr2 (ns.length + od2.length))), .un, .un, .un, .un, .un])
    (bp_set (semp_led (lim := imax 0 (topT tr2 (ns.length + od2.length))) (tr := tr2) (semp_cb (sempa_cons (semp_d fun _ _ _ => sem_int (i := 0)) (sempa_cons (q_1 (by decide) rfl) sempa_nil)) fun rs ⟨r, rs', q1, ⟨r2, rs2, q2, q3, q4⟩, q5⟩ => ⟨_, rfl, fun xs z => (by cases z), by rw [q5, q4, q3, q2, q1]; exact cvd_max2⟩) rfl rfl rfl (by decide) bN bJ bM (lim_of im.1 im.2) t2 oks) (by decide) fun r e => ⟨_, _, by subst e; rfl⟩) ?_
  rintro Γ1 ⟨D, n, rfl⟩
  refine bp_seq (nx1 := fun Γ1 => Γ1 = _) (bp_no (sempt_orF (q_N (by decide) rfl) (q_neD (q_1 (by decide) rfl) (q_1 (by decide) rfl))) rfl) ?_
  rintro Γ1 rfl
  refine bp_no ?_ ⟨rfl, rfl⟩
  refine (sempt_and (C := fun b => b = decide (0 < topT tr2 (ns.length + od2.length))) (D := fun b => b = false) (sempt_B (P := fun r => r = .d (.bool (decide (0 < topT tr2 (ns.length + od2.length))))) (semp_op (q_1 (by decide) rfl) (semp_d fun _ _ _ => sem_int (i := 0)) fun r1 r2 q1 q2 => ⟨_, rfl, fun xs z => (by cases z), by subst q1 q2; exact rvd_gt⟩) fun r e => ⟨_, e, rfl⟩) fun hc => ?_).mono fun b h => ?_
  · have hpos := of_decide_eq_true hc.symm
    refine sempt_B (P := fun r => r = .d (.bool false)) (semp_op (semp_ledN (lim := topT tr2 (ns.length + od2.length) - 1) (tr := tr2) (semp_op (P1 := fun r => r = .d (.int (topT tr2 (ns.length + od2.length)))) (P3 := fun r => r = .d (.int 1)) (q_1 (by decide) rfl) (semp_d fun _ _ _ => sem_int (i := 1)) fun r1 r2 q1 q2 => ⟨_, rfl, fun xs z => (by cases z), by subst q1 q2; exact rvd_sub⟩) rfl rfl rfl (by decide) bN bJ bM (lim_of (by omega) (by omega)) t2 (nopre hpos)) (semp_d fun _ _ _ => sem_non) fun r1 r2 q1 q2 => ⟨_, rfl, fun xs z => (by cases z), ?_⟩) fun r e => ⟨false, e, rfl⟩
    subst q1 q2
    exact rvd_isnotN (x := .none)
  · rcases h with ⟨_, h⟩ | ⟨_, h⟩
    · exact h
    · exact h
end
end RP
end
section
set_option autoImplicit false
set_option maxHeartbeats 4000000
namespace RP
open PySem PySem.Spec PyProof.Rows L2
/-- what is asked of a frame between the turns -/
def TurnAt (H1 : Hp) (sA : Addr) (σ : L2.St) (G : Hp) : Prop := Same H1 G ∧ σ.length = 19 ∧ σ[0]? = some (some (.ref sA))
section
variable {K : PySem.W.Frag} {H1 B G : Hp} {Γ : List Sl} {σ : L2.St} {z sA : Addr} {kk : Sl} {D : Ends}
theorem PS.lenσ (s : PS K B Γ 2 σ G z) : σ.length = Γ.length := by
  obtain ⟨i0, j0, k0, rp⟩ := s.ex
  have := rp.len
  rw [List.length_set] at this
  exact this
end
section
variable {K : PySem.W.Frag} {H0 H : Hp} {Γ : List Sl} {σ : L2.St} {wi : TI} {g : TG} {tb : TS} {D : Ends} {xs : List PyData}
theorem semi_loop (hi : SemI K Γ wi xs) (rp : Rp K H0 Γ σ H) (Pv : Hp → Nat → L2.St → Hp → Prop) (h0 : ∀ H1, Same H H1 → Pv H1 0 σ H1) (hG : ∀ H1 i σ' G, Same H H1 → Pv H1 i σ' G → Same H1 G)
    (hs : ∀ H1 i v σ' G G' x, Same H H1 → i < xs.length → Pv H1 i σ' G → Same G G' → xs[i]? = some x → Dt K G' v x → g v σ' G' fun σ2 H2 => tb { D with nx := Pv H1 (i + 1), ct := Pv H1 (i + 1), bk := D.nx } σ2 H2)
    (hd : ∀ H1 σ' G, Same H H1 → Pv H1 xs.length σ' G → D.nx σ' G) : tFor wi g tb D σ H := hi H0 σ H _ rp fun J H1 e1 w =>
  for_it w (Pv H1) (h0 H1 e1) (fun i σ' G _ p => strip_same.trans (hG H1 i σ' G e1 p)) (fun i v σ' G G' hi' p y => by
    obtain ⟨sm, x, hx, hd⟩ := y
    exact hs H1 i v σ' G G' x e1 hi' p sm hx hd) (fun σ' G p => hd H1 σ' G e1 p)
end
section
variable {K : PySem.W.Frag} {B H0 H : Hp} {Γ : List Sl} {σ : L2.St} {z jA rv sA : Addr} {E : XK} {js : List Job} {rows : List RowT} {D : Ends} {u : TS}
theorem seq_rows (s : PS K H0 Γ 2 σ H z) (b : Same B H0) (hb : LB K B jA (js.map Job.data)) (h4 : Γ[4]? = some (.g (refS jA))) (hΓ : Γ.length = 19) (hl : js.length ≤ 4) (hh : ∀ j ∈ js, Held 4 j)
    (q : ∀ (G : Hp) (Da : Addr) (rows : List RowT), SZ z H G → PS K H0 (Γ.set 6 (.g (refS Da))) 2 (σ.set 6 (some (.ref Da))) G z → RowsL K (delH z G) Da rows → rows.length = js.length → (∀ (a : Nat) (j : Job) (r : RowT), js[a]? = some j → rows[a]? = some r → Run j r.1 r.2.1 r.2.2 ∧ r.1.length ≤ 4) → u D (σ.set 6 (some (.ref Da))) G) :
    tSeq (tAsg (tLc (iList K (tVar 4)) (gName 14) tYes (tCall (spRow K) [] E (tCons (tVar 2) (tCons (tVar 14) tNil))) [14]) (gName 6)) u D σ H := law_rows (D := { D with nx := u D }) s b hb h4 hΓ hl hh q
theorem seq_mixed (s : PS K H0 Γ 2 σ H z) (b : Same B H0) (hr : RowsL K B rv rows) (h6 : Γ[6]? = some (.g (refS rv))) (hΓ : Γ.length = 19) (hl : rows.length ≤ 4) (hc4 : ∀ cs ∈ rowsC rows, cs.length ≤ 4)
    (q : ∀ (G : Hp) (v : V) (od : List (Nat × List Nat)), Ord (rowsC rows) (lensL (rowsC rows)) od → PS K H0 (Γ.set 10 (.l (od.map odD))) 2 (σ.set 10 (some v)) G z → u D (σ.set 10 (some v)) G) :
    tSeq (tAsg (tCall (spMix K) [] E (tCons (tVar 2) (tCons (tLc (iList K (tVar 6)) (gName 9) tYes (tOp (rIxT K) (tVar 9) (tC (.int 0))) [9]) tNil))) (gName 10)) u D σ H := law_mixed (D := { D with nx := u D }) s b hr h6 hΓ hl hc4 q
theorem seq_begun {ns0 : List Int} {k : Nat} (hl : σ.length = 19) (q0 : σ[0]? = some (some (.ref sA))) (q1 : σ[1]? = some (some (.int (k : Nat)))) (hs : ScrR K ns0 H (.ref sA))
    (q : ∀ (G : Hp) (v : V) (z : Addr), PS K (delH z G) [.g (refS sA), .d (.int (k : Nat)), .un, .un, .un, .un, .un, .un, .un, .un, .un, .un, .un, .un, .un, .un, .un, .un, .un] 2 (σ.set 2 (some v)) G z → Same H (delH z G) → u D (σ.set 2 (some v)) G) :
    tSeq (tAsg (tCall (spF K (pr_begun K)) [] E (tCons (tVar 0) (tCons (tVar 1) tNil))) (gName 2)) u D σ H := by
  refine ⟨_, q0, _, q1, [.g (ScrR K ns0), .d (.int (k : Nat))], .l (begL ns0 k), ⟨ns0, k, rfl, rfl⟩, ⟨scrR_fst hs, .int _, trivial⟩, fun v H2 e2 a2 => ?_⟩
  have rp1 : Rp K H (.g (ScrR K ns0) :: .d (.int (k : Nat)) :: List.replicate 17 .un) σ H := by
    refine ⟨Same.refl _, by rw [hl]; rfl, fun i s hi n => ?_, fun i j s u ne hi hj ho hL => ?_⟩
    · rcases i with _ | _ | i
      · cases hi
        exact ⟨_, q0, scrR_fst hs⟩
      · cases hi
        exact ⟨_, q1, .int _⟩
      · have hi' : (List.replicate 17 Sl.un)[i]? = some s := hi
        rw [List.getElem?_replicate] at hi'
        split at hi'
        · cases hi'
          exact absurd rfl n
        · cases hi'
    · rcases i with _ | _ | i
      · cases hi
        cases ho
      · cases hi
        cases ho
      · have hi' : (List.replicate 17 Sl.un)[i]? = some s := hi
        rw [List.getElem?_replicate] at hi'
        split at hi'
        · cases hi'
          cases ho
        · cases hi'
  have rp2 := rp1.store (r := .l (begL ns0 k)) e2 a2 2
  obtain ⟨z, s⟩ := rp_ps (p := 2) rp2 rfl
  have h0 : (σ.set 2 (some v))[0]? = some (some (.ref sA)) := by rw [List.getElem?_set_ne (by decide)]; exact q0
  exact q H2 v z (s.rebase (.ref h0 (.same rfl (.un (.un (.un (.un (.un (.un (.un (.un (.un (.un (.un (.un (.un (.un (.un (.un (.un .nil)))))))))))))))))))) s.under
end
def pr_law (K : PySem.W.Frag) : List Rk → Rk → Prop := fun rs r => ∃ ns : List Int, rs = [.g (ScrR K ns)] ∧ r = .d (.bool true)
section
variable {P : Program} {w : World} {K : PySem.W.Frag} {mg : Str → Option Value} {base : Heap}
theorem w_law (T : Tk K mg) {f : Addr} {fd : FuncData} (F : FunD K "law" "law" (defArgs s_law) (defBody s_law) (defScope s_law) [] [] f fd) : FnOk P w K mg base CX0 40 f fd p_law (spF K (pr_law K)) := by
  have g__law_begun := w_law_begun (P := P) (w := w) (base := base) T.toTx
  have g__law_drawn_names := w_law_drawn_names (P := P) (w := w) (base := base) T.toTx
  have g__law_draw := w_law_draw (P := P) (w := w) (base := base) T.toTx
  have g__law_drawn_job := w_law_drawn_job (P := P) (w := w) (base := base) T.toTx 3
  have g__law_great_job := w_law_great_job (P := P) (w := w) (base := base) T.toTx 3
  have g__law_drawn_row := w_law_drawn_row (P := P) (w := w) (base := base) T.toTx
  have g__law_mix := w_law_mix (P := P) (w := w) (base := base) T.toTx
  have g__law_led := w_law_led (P := P) (w := w) (base := base) T
  have g_Keeper_need := w_k_need (P := P) (w := w) (base := base) T
  have g_Keeper_usage := w_k_usage (P := P) (w := w) (base := base) T
  have g_Keeper_remaining := w_k_remaining (P := P) (w := w) (base := base) T
  refine F.ok (k := 39) sc_law (fun vs H Q E h => ?_) (fun cdv A outer sh H vs Q E hr h => ?_)
  · obtain ⟨rs, r, ⟨ns, rfl, _⟩, ag, _⟩ := h
    rw [ag.length]
    rfl
  suffices hs : ∃ t, PSs (cxOf CX0 P w K mg base n_law "law" (defScope s_law) f cdv A outer sh H E).nox (defBody s_law) t ∧ ∀ D : Ends, D.rt = Q → t D (L2.start n_law vs) H by
    obtain ⟨t, d, ht⟩ := hs
    exact ⟨t, PSs.nox d, ht _ rfl⟩
  refine ⟨_, (pss_cons (ps_for PassesOwn.never rfl (pi_range1 rfl T.b_range (pa_cons (pe_callB (call_max2 rfl) rfl T.b_max (by decide +kernel) (pa_cons pe_int (pa_cons (pe_callB (call_min2 rfl) rfl T.b_min (by decide +kernel) (pa_cons pe_int (pa_cons (pe_callB call_len_seq rfl T.b_len (by decide +kernel) (pa_cons (pv 0) pa_nil)) pa_nil))) pa_nil))) pa_nil)) (pg_name (i := 1) sc_law.nd rfl (Or.inl rfl)) (pss_cons (ps_set (i := 2) sc_law.nd rfl (Or.inr rfl) (pe_df g__law_begun hr (by omega) pass0 rfl (pa_cons (pv 0) (pa_cons (pv 1) pa_nil))))
    (pss_cons (ps_set (i := 3) sc_law.nd rfl (Or.inl rfl) (pe_callB cr_sortedS rfl T.b_sorted (by decide +kernel) (pa_cons (pe_df g__law_drawn_names hr (by omega) pass0 rfl (pa_cons (pv 2) (pa_cons (pe_op op_add pe_int (pe_df g__law_draw hr (by omega) pass0 rfl (pa_cons (pv 2) (pa_cons pe_int pa_nil)))) pa_nil))) pa_nil)))
    (pss_cons (ps_set (i := 4) sc_law.nd rfl (Or.inl rfl) (pe_lst pa_nil))
    (pss_cons (ps_for PassesOwn.never rfl (pi_list (pv 3)) (pg_name (i := 5) sc_law.nd rfl (Or.inl rfl)) (pss_one (ps_expr (pe_bm PySem.F.plainAttrs_list PySem.F.slot_list_append PySem.F.type_list_append mt_append (pv 4) (pa_cons (pe_ix ix_list (pe_lst (pa_cons (pe_df g__law_drawn_job hr (by omega) pass0 rfl (pa_cons (pv 2) (pa_cons pe_int (pa_cons pe_int pa_nil)))) (pa_cons (pe_df g__law_great_job hr (by omega) pass0 rfl (pa_cons (pv 2) (pa_cons pe_int (pa_cons pe_int pa_nil)))) pa_nil))) (pe_df g__law_draw hr (by omega) pass0 rfl (pa_cons (pv 2) (pa_cons pe_int pa_nil))) (fun _ _ => rfl)) pa_nil)))))
    (pss_cons (ps_setLc (i := 6) (own := [("_law_job", 14)]) (g := (gName 14)) (tt := tYes) rfl sc_law.nd rfl rfl (sw_true rfl rfl rfl (by decide +kernel)) (pi_list (pv 4)) (blkOk_by (own := [("_law_job", 14)]) (N := n_law) (sc := defScope s_law) (by decide +kernel)) (fun _ _ _ _ _ => (pg_name (i := 14) sc_law.nd rfl (Or.inl rfl))) (fun _ _ _ _ _ => pts_nil) (fun _ _ _ _ _ => (pe_df g__law_drawn_row hr (by omega) pass0 rfl (pa_cons (pv 2) (pa_cons (pv 14) pa_nil)))))
    (pss_cons (ps_set (i := 7) sc_law.nd rfl (Or.inl rfl) (pe_lst pa_nil))
    (pss_cons (ps_for PassesOwn.never rfl (pi_enum rfl T.b_enumerate (pa_cons (pv 6) pa_nil)) (pg_tup rfl (pgs_cons (pg_name (i := 8) sc_law.nd rfl (Or.inr rfl)) (pgs_cons (pg_name (i := 9) sc_law.nd rfl (Or.inl rfl)) pgs_nil))) (pss_one (ps_expr (pe_bm PySem.F.plainAttrs_list PySem.F.slot_list_extend PySem.F.type_list_extend mt_extend (pv 7) (pa_cons (pe_lc (own := [("_law_choice", 15)]) (g := (gName 15)) (tt := tYes) rfl sc_law.nd (pi_list (pe_ix ix_tup (pv 9) pe_int (fun _ _ => rfl))) (blkOk_by (own := [("_law_choice", 15)]) (N := n_law) (sc := defScope s_law) (by decide +kernel)) (fun _ _ _ _ _ => (pg_name (i := 15) sc_law.nd rfl (Or.inl rfl))) (fun _ _ _ _ _ => pts_nil) (fun _ _ _ _ _ => (pe_tup (pa_cons (pv 8) (pa_cons (pv 15) pa_nil))))) pa_nil)))))
    (pss_cons (ps_set (i := 10) sc_law.nd rfl (Or.inl rfl) (pe_df g__law_mix hr (by omega) pass0 rfl (pa_cons (pv 2) (pa_cons (pe_lc (own := [("_law_row", 9)]) (g := (gName 9)) (tt := tYes) rfl sc_law.nd (pi_list (pv 6)) (blkOk_by (own := [("_law_row", 9)]) (N := n_law) (sc := defScope s_law) (by decide +kernel)) (fun _ _ _ _ _ => (pg_name (i := 9) sc_law.nd rfl (Or.inl rfl))) (fun _ _ _ _ _ => pts_nil) (fun _ _ _ _ _ => (pe_ix (ix_tupK (K := K)) (pv 9) pe_int (fun _ _ => rfl)))) pa_nil))))
    (pss_cons (ps_asg (pe_tup (pa_cons (pe_df g__law_led hr (by omega) pass0 rfl (pa_cons (pe_op op_pow pe_int pe_int) (pa_cons (pv 3) (pa_cons (pv 4) (pa_cons (pv 7) pa_nil))))) (pa_cons (pe_df g__law_led hr (by omega) pass0 rfl (pa_cons (pe_op op_pow pe_int pe_int) (pa_cons (pv 3) (pa_cons (pv 4) (pa_cons (pv 10) pa_nil))))) pa_nil))) (pg_tup rfl (pgs_cons (pg_name (i := 11) sc_law.nd rfl (Or.inr rfl)) (pgs_cons (pg_name (i := 12) sc_law.nd rfl (Or.inl rfl)) pgs_nil))))
    (pss_cons (ps_if (PW.pt (pw_or (pt_cmpR op_isN (pv 11) pe_non (nomark _)) (pw_or (pt_cmpR op_isN (pv 12) pe_non (nomark _)) (pw_or (pt_not (pt_cmpR (op_eqK T (hr.mono (by omega))) (pe_ix ix_tup (pv 11) pe_int (fun _ _ => rfl)) (pe_ix ix_tup (pv 12) pe_int (fun _ _ => rfl)) (nomark _))) (pw_or1 (pt_not (pt_cmpR (op_eqK T (hr.mono (by omega))) (pe_ix ix_tup (pv 12) pe_int (fun _ _ => rfl)) (pe_ix ix_tup (pv 11) pe_int (fun _ _ => rfl)) (nomark _)))))))) (pss_one (ps_ret pe_bl)) pss_nil)
    (pss_cons (ps_if (PW.pt (pw_or (pt_cmpR op_ne (pe_dfm0 (E := E0) (pe_ix ix_tup (pv 11) pe_int (fun _ _ => rfl)) g_Keeper_need hr (by omega) pass0 ) (pe_dfm0 (E := E0) (pe_ix ix_tup (pv 12) pe_int (fun _ _ => rfl)) g_Keeper_need hr (by omega) pass0 ) (nomark _)) (pw_or1 (pt_cmpR op_ne (pe_dfm0 (E := E0) (pe_ix ix_tup (pv 11) pe_int (fun _ _ => rfl)) g_Keeper_usage hr (by omega) pass0 ) (pe_callB (cr_sum rfl) rfl T.b_sum (by decide +kernel) (pa_cons (pe_lc (own := [("_law_found", 16), ("_law_left", 17), ("_law_held", 18)]) (g := (gTup K 3 (gCons (gName 16) (gCons (gName 17) (gCons (gName 18) gNil))))) (tt := tYes) rfl sc_law.nd (pi_list (pv 6)) (blkOk_by (own := [("_law_found", 16), ("_law_left", 17), ("_law_held", 18)]) (N := n_law) (sc := defScope s_law) (by decide +kernel)) (fun _ _ _ _ _ => (pg_tup rfl (pgs_cons (pg_name (i := 16) sc_law.nd rfl (Or.inl rfl)) (pgs_cons (pg_name (i := 17) sc_law.nd rfl (Or.inl rfl)) (pgs_cons (pg_name (i := 18) sc_law.nd rfl (Or.inl rfl)) pgs_nil))))) (fun _ _ _ _ _ => pts_nil) (fun _ _ _ _ _ => (pv 18))) pa_nil)) (nomark _))))) (pss_one (ps_ret pe_bl)) pss_nil)
    (pss_cons (ps_if (pt_cmpR (op_neD hr.units) (pe_lc (own := [("_law_name", 5)]) (g := (gName 5)) (tt := tYes) rfl sc_law.nd (pi_list (pv 3)) (blkOk_by (own := [("_law_name", 5)]) (N := n_law) (sc := defScope s_law) (by decide +kernel)) (fun _ _ _ _ _ => (pg_name (i := 5) sc_law.nd rfl (Or.inl rfl))) (fun _ _ _ _ _ => pts_nil) (fun _ _ _ _ _ => (pe_dfm (E := E0) (pe_ix (ix_tupK (K := K)) (pv 11) pe_int (fun _ _ => rfl)) g_Keeper_remaining hr (by omega) pass0 (pa_cons (pv 5) pa_nil)))) (pe_lc (own := [("_law_found", 16), ("_law_left", 17), ("_law_held", 18)]) (g := (gTup K 3 (gCons (gName 16) (gCons (gName 17) (gCons (gName 18) gNil))))) (tt := tYes) rfl sc_law.nd (pi_list (pv 6)) (blkOk_by (own := [("_law_found", 16), ("_law_left", 17), ("_law_held", 18)]) (N := n_law) (sc := defScope s_law) (by decide +kernel)) (fun _ _ _ _ _ => (pg_tup rfl (pgs_cons (pg_name (i := 16) sc_law.nd rfl (Or.inl rfl)) (pgs_cons (pg_name (i := 17) sc_law.nd rfl (Or.inl rfl)) (pgs_cons (pg_name (i := 18) sc_law.nd rfl (Or.inl rfl)) pgs_nil))))) (fun _ _ _ _ _ => pts_nil) (fun _ _ _ _ _ => (pv 17))) (nomark _)) (pss_one (ps_ret pe_bl)) pss_nil)
    (pss_cons (ps_set (i := 13) sc_law.nd rfl (Or.inl rfl) (pe_df g__law_led hr (by omega) pass0 rfl (pa_cons (pe_callB (call_max2 rfl) rfl T.b_max (by decide +kernel) (pa_cons pe_int (pa_cons (pe_ix ix_tup (pv 12) pe_int (fun _ _ => rfl)) pa_nil))) (pa_cons (pv 3) (pa_cons (pv 4) (pa_cons (pv 10) pa_nil))))))
    (pss_cons (ps_if (PW.pt (pw_or (pt_cmpR op_isN (pv 13) pe_non (nomark _)) (pw_or1 (pt_cmpR (op_neD hr.units) (pe_ix ix_tup (pv 13) pe_int (fun _ _ => rfl)) (pe_ix ix_tup (pv 12) pe_int (fun _ _ => rfl)) (nomark _))))) (pss_one (ps_ret pe_bl)) pss_nil)
    (pss_one (ps_if (PW.pt (pw_and (pt_cmpR op_gt (pe_ix ix_tup (pv 12) pe_int (fun _ _ => rfl)) pe_int (nomark _)) (pw_and1 (pt_cmpR op_notN (pe_df g__law_led hr (by omega) pass0 rfl (pa_cons (pe_op op_sub (pe_ix ix_tup (pv 12) pe_int (fun _ _ => rfl)) pe_int) (pa_cons (pv 3) (pa_cons (pv 4) (pa_cons (pv 10) pa_nil))))) pe_non (nomark _))))) (pss_one (ps_ret pe_bl)) pss_nil)))))))))))))))))
    (pss_one (ps_ret pe_bl))), ?_⟩
  obtain ⟨rs, r, ⟨ns0, rfl, rfl⟩, ag, q⟩ := h
  match vs, ag with
  | [v0], ⟨hS0, _⟩ =>
  have hS1 : Fst (ScrR K ns0) H v0 := hS0
  obtain ⟨sA, e0, _⟩ := id hS1.now
  subst e0
  rintro D rfl
  have rp0 : Rp K H (slots n_law [.g (ScrR K ns0)]) (L2.start n_law [.ref sA]) H := rp_start ⟨hS1, trivial⟩
  obtain ⟨N, hN, hN3⟩ : ∃ N : Nat, imax 1 (if (ns0.length : Int) < 3 then (ns0.length : Int) else 3) = (N : Int) ∧ N ≤ 3 := by
    refine ⟨(imax 1 (if (ns0.length : Int) < 3 then (ns0.length : Int) else 3)).toNat, ?_, ?_⟩
    · unfold imax
      split <;> split <;> omega
    · unfold imax
      split <;> split <;> omega
  have hr1 : Sem K (slots n_law [.g (ScrR K ns0)]) _ (.d (.int (N : Int))) := (sem_cb (sema_cons sem_int (sema_cons (sem_cb (sema_cons sem_int (sema_cons (sem_cb (sema_cons (sem_varG (i := 0) rfl) sema_nil) cvd_lenScr) sema_nil)) cvd_min2) sema_nil)) cvd_max2).cast (by rw [hN])
  refine semi_loop (semi_range hr1 (by omega)) rp0 (fun H1 _ σ G => TurnAt H1 sA σ G) (fun H1 e1 => ⟨Same.refl _, rfl, rfl⟩) (fun H1 i σ G e1 p => p.1) (fun H1 i v σ G G' x e1 hi p sm hx hd => ?_) (fun H1 σ G e1 p => q _ _ (e1.trans p.1) (.bl _))
  rw [List.getElem?_map] at hx
  obtain ⟨k, hk, rfl⟩ := Option.map_eq_some_iff.mp hx
  have ek := Dt.isInt hd
  subst ek
  obtain ⟨p1, p2, p3⟩ := p
  have hsG : ScrR K ns0 G' (.ref sA) := scrR_nl (NL.of (e1.trans (p1.trans sm))) hS1.now
  have q0 : (σ.set 1 (some (.int (k : Nat))))[0]? = some (some (.ref sA)) := by rw [List.getElem?_set_ne (by decide)]; exact p3
  refine seq_begun (k := k) (by rw [List.length_set]; exact p2) q0 (List.getElem?_set_self (by omega)) hsG fun H2 v z s' hB0 => ?_
  refine (?_ : RawP 2 K (delH z H2) z _ [.g (refS sA), .d (.int (k : Nat)), .un, .un, .un, .un, .un, .un, .un, .un, .un, .un, .un, .un, .un, .un, .un, .un, .un] _) _ _ s'
  clear s'
  generalize delH z H2 = B0 at hB0 ⊢
  refine rawp_seq (Same.refl _) (nx1 := fun Γ1 => ∃ ns : List Str, Γ1 = [.g (refS sA), .d (.int (k : Nat)), .un, .l (ns.map PyData.str), .un, .un, .un, .un, .un, .un, .un, .un, .un, .un, .un, .un, .un, .un, .un] ∧ NmsG ns) (bp_set law_names (by decide) fun r ⟨ns, e, h⟩ => ⟨ns, by subst e; rfl, h⟩) ?_
  rintro Γ1 ⟨ns, rfl, hns⟩ σ3 H3 s3
  obtain ⟨nA, hnA, bN⟩ := s3.ownL (i := 3) rfl (by decide)
  have s3' := s3.rebase (Γ' := [.g (refS sA), .d (.int (k : Nat)), .un, .g (refS nA), .un, .un, .un, .un, .un, .un, .un, .un, .un, .un, .un, .un, .un, .un, .un]) (.same rfl (.same rfl (.un (.ref hnA (.un (.un (.un (.un (.un (.un (.un (.un (.un (.un (.un (.un (.un (.un (.un .nil)))))))))))))))))))
  have hB1 := hB0.trans s3.under
  refine (?_ : RawP 2 K (delH z H3) z _ [.g (refS sA), .d (.int (k : Nat)), .un, .g (refS nA), .un, .un, .un, .un, .un, .un, .un, .un, .un, .un, .un, .un, .un, .un, .un] _) _ _ s3'
  clear s3' s3 hnA hB0
  generalize delH z H3 = B1 at hB1 bN ⊢
  refine rawp_seq (Same.refl _) (nx1 := fun Γ1 => Γ1 = [.g (refS sA), .d (.int (k : Nat)), .un, .g (refS nA), .l [], .un, .un, .un, .un, .un, .un, .un, .un, .un, .un, .un, .un, .un, .un]) (bp_set (P := fun r => r = .l []) (semp_l fun _ _ _ => sem_lst (ds := []) sema_nil (by decide)) (by decide) fun r e => by subst e; rfl) ?_
  rintro Γ1 rfl
  refine rawp_seq (Same.refl _) (law_jobs bN hns.hi) ?_
  rintro Γ1 ⟨js, s5, rfl, hjl, hjs⟩ σ4 H4 s4
  obtain ⟨jA, hjA, bJ⟩ := s4.ownL (i := 4) rfl (by decide)
  have s4' := s4.rebase (Γ' := [.g (refS sA), .d (.int (k : Nat)), .un, .g (refS nA), .g (refS jA), .un, .un, .un, .un, .un, .un, .un, .un, .un, .un, .un, .un, .un, .un]) (.same rfl (.same rfl (.un (.same rfl (.ref hjA (.un (.un (.un (.un (.un (.un (.un (.un (.un (.un (.un (.un (.un (.un .nil)))))))))))))))))))
  have hB4 := hB1.trans s4.under
  replace bN := bN.mono s4.under
  have nl := hns.hi
  refine seq_rows (B := delH z H4) s4' (Same.refl _) bJ rfl rfl (by omega) hjs fun G5 Da rows sz5 s5 hR hrl hruns => ?_
  have s5' := s5.rebase (Γ' := [.g (refS sA), .d (.int (k : Nat)), .un, .g (refS nA), .g (refS jA), .un, .g (refS Da), .un, .un, .un, .un, .un, .un, .un, .un, .un, .un, .un, .un]) (.same rfl (.same rfl (.un (.same rfl (.same rfl (.un (.same rfl (.un (.un (.un (.un (.un (.un (.un (.un (.un (.un (.un (.un .nil)))))))))))))))))))
  have hB5 := hB4.trans s5.under
  replace bN := bN.mono s5.under
  replace bJ := bJ.mono s5.under
  have hc4 : ∀ cs ∈ rowsC rows, cs.length ≤ 4 := fun cs hcs => by
    obtain ⟨a, ha⟩ := List.getElem?_of_mem hcs
    unfold rowsC at ha
    rw [List.getElem?_map] at ha
    obtain ⟨r, hr1, rfl⟩ := Option.map_eq_some_iff.mp ha
    have hb := (List.getElem?_eq_some_iff.mp hr1).1
    exact (hruns a _ r (List.getElem?_eq_getElem (by omega)) hr1).2
  obtain ⟨S, cell, hfin⟩ := cell_of nl hns.nd hns.srt hns.nm hjl hjs (by omega) hruns
  have ho1 : Ord (rowsC rows) (lensL (rowsC rows)) (plOd (rowsC rows) rows.length) := by
    have e : rows.length = (rowsC rows).length := by unfold rowsC; rw [List.length_map]
    have := ord_plain (rowsC rows) rows.length (by omega)
    rw [e, plPs_full] at this
    rw [e]
    exact this
  obtain ⟨tr1, t1, e1'⟩ := cell.tr ho1
  refine (?_ : RawP 2 K (delH z G5) z _ [.g (refS sA), .d (.int (k : Nat)), .un, .g (refS nA), .g (refS jA), .un, .g (refS Da), .un, .un, .un, .un, .un, .un, .un, .un, .un, .un, .un, .un] _) _ _ s5'
  clear s5' s5 s4' s4 hjA hB4 hB1 sz5
  generalize delH z G5 = B5 at hB5 bN bJ hR ⊢
  refine rawp_seq (Same.refl _) (nx1 := fun Γ1 => Γ1 = [.g (refS sA), .d (.int (k : Nat)), .un, .g (refS nA), .g (refS jA), .un, .g (refS Da), .l [], .un, .un, .un, .un, .un, .un, .un, .un, .un, .un, .un]) (bp_set (P := fun r => r = .l []) (semp_l fun _ _ _ => sem_lst (ds := []) sema_nil (by decide)) (by decide) fun r e => by subst e; rfl) ?_
  rintro Γ1 rfl
  refine rawp_seq (Same.refl _) (law_plain hR (by omega) hc4) ?_
  rintro Γ1 ⟨s8, s9, rfl⟩ σ7 H7 s7
  refine seq_mixed s7 (Same.refl _) hR rfl rfl (by omega) hc4 fun G8 v8 od2 ho2 s10 => ?_
  obtain ⟨tr2, t2, e2'⟩ := cell.tr ho2
  obtain ⟨pA, hpA, bP⟩ := s10.ownL (i := 7) rfl (by decide)
  obtain ⟨mA, hmA, bM⟩ := s10.ownL (i := 10) rfl (by decide)
  have s10' := s10.rebase (Γ' := [.g (refS sA), .d (.int (k : Nat)), .un, .g (refS nA), .g (refS jA), .un, .g (refS Da), .g (refS pA), .un, .un, .g (refS mA), .un, .un, .un, .un, .un, .un, .un, .un]) (.same rfl (.same rfl (.un (.same rfl (.same rfl (.un (.same rfl (.ref hpA (.un (.un (.ref hmA (.un (.un (.un (.un (.un (.un (.un (.un .nil)))))))))))))))))))
  have hB8 := hB5.trans s10.under
  replace bN := bN.mono s10.under
  replace bJ := bJ.mono s10.under
  replace hR := hR.mono s10.under
  refine law_ask (post := fun _ => False) cell hfin (by omega) t1 e1' t2 e2' bN bJ hR bP bM _ z _ (Same.refl _) ⟨fun _ _ _ h => h.elim, fun σ9 H9 Γ9 hn s9' => ?_⟩ _ _ s10'
  exact ⟨(p1.trans sm).trans (hB8.trans s9'.base), s9'.lenσ.trans hn.2, s9'.varR (by decide) hn.1⟩
end
end RP
end
section
set_option autoImplicit false
set_option maxHeartbeats 0
namespace RP
open PySem PySem.Spec PyProof.Rows L2
theorem dtAll_ok {K : PySem.W.Frag} {H : Hp} {f : Value → PyData → Bool} (hf : ∀ v x, f v x = true → Dt K H (toVv v) x ∧ RelV (toVv v) v) : ∀ {vs : List Value} {ds : List PyData}, dtAll f vs ds = true → DtL K H (vs.map toVv) ds ∧ Vals (vs.map toVv) vs
  | [], [], _ => ⟨.nil, .nil⟩
  | [], _ :: _, h => by cases h
  | _ :: _, [], h => by cases h
  | v :: vs, d :: ds, h => by
    obtain ⟨h1, h2⟩ := He.ba (show (f v d && dtAll f vs ds) = true from h)
    obtain ⟨a, b⟩ := hf v d h1
    obtain ⟨a2, b2⟩ := dtAll_ok hf h2
    exact ⟨.cons a a2, .cons b b2⟩
theorem dtB_ok {K : PySem.W.Frag} {H : Hp} : ∀ (n : Nat) (v : Value) (x : PyData), dtB K n v x = true → Dt K H (toVv v) x ∧ RelV (toVv v) v
  | 0, _, _, h => by cases h
  | n + 1, v, x, h => by
    cases v with
    | int i t =>
      cases x with
      | int j =>
        have e : i = j := of_decide_eq_true h
        subst e
        exact ⟨.int _, t, rfl⟩
      | _ => cases h
    | str a t =>
      cases x with
      | str b =>
        have e : a = b := of_decide_eq_true h
        subst e
        exact ⟨.str _, t, rfl⟩
      | _ => cases h
    | ref a =>
      cases x with
      | tuple ds =>
        have h1 : (match K.lookup a with
          | some ⟨.type c, _, .seq its _, _⟩ => decide (c = "tuple") && (decide (its.size ≤ sizeLine) && dtAll (dtB K n) its.toList ds)
          | _ => false) = true := h
        cases q : K.lookup a with
        | none =>
          rw [q] at h1
          cases h1
        | some o =>
          obtain ⟨oc, od, dt, osl⟩ := o
          rw [q] at h1
          cases oc with
          | type c =>
            cases dt with
            | seq its m =>
              obtain ⟨h2, h3⟩ := He.ba (show (decide (c = "tuple") && (decide (its.size ≤ sizeLine) && dtAll (dtB K n) its.toList ds)) = true from h1)
              obtain ⟨h4, h5⟩ := He.ba h3
              obtain ⟨h6, h7⟩ := dtAll_ok (fun v x hh => dtB_ok n v x hh) h5
              exact ⟨.tup (.inr ⟨_, its, m, q, congrArg Value.type (of_decide_eq_true h2), rfl, of_decide_eq_true h4, h7⟩) h6, rfl⟩
            | _ => cases h1
          | _ => cases dt <;> cases h1
      | _ => cases h
    | _ => cases x <;> cases h
theorem ktup_of {K : PySem.W.Frag} {x : Str} {d : PyData} (h : dtB K 6 (.ref (He.ga K x)) d = true) : KTup K (.ref (He.ga K x)) d := fun H => (dtB_ok 6 _ d h).1
theorem reB_ok {K : PySem.W.Frag} {C : Addr} (q : reB K C = true) : ∃ nm q N bs sn sub ab col dd k0 k1 k2 k3 k5, K.lookup C = some (excClassObj nm q C N bs reTail true sn sub ab col dd k0 k1 k2 k3 k5 "RuntimeError.__new__") := by
  unfold reB at q
  split at q
  · rename_i dd cd sl ho
    split at q
    · rename_i k0 k1 k2 k3 n k5 hs
      simp only [Bool.and_eq_true, decide_eq_true_eq, beq_iff_eq, Bool.not_eq_true'] at q
      obtain ⟨hm, rfl, hdel, hd⟩ := q
      obtain ⟨nm, bs, mro, ns, qn, hdict, sn, sub, ab, col, del⟩ := cd
      dsimp only at hm hdel hd
      subst hm hdel hd
      have hsl : sl = #[k0, k1, k2, k3, some (.builtin "RuntimeError.__new__"), k5] := by
        obtain ⟨l⟩ := sl
        simp only at hs
        rw [hs]
      subst hsl
      exact ⟨nm, qn, ns, bs, sn, sub, ab, col, dd, k0, k1, k2, k3, k5, ho⟩
    · cases q
  · cases q
end RP
end
section
set_option autoImplicit false
set_option maxHeartbeats 0
namespace RP
open PySem PySem.Spec PyProof.Rows L2
/-- what the written part is asked -/
structure Says (K : PySem.W.Frag) : Prop where
  fa : (fa.all fun f => f.ok K) = true
  d : He.SaysD [] fn K
  more : ex K = true
theorem Says.fact {K : PySem.W.Frag} (c : Says K) (i : Nat) {f : He.Fa} (h : RP.fa[i]? = some f := by rfl) : f.ok K = true := List.all_eq_true.mp c.fa f (List.mem_of_getElem? h)
section
variable {K : PySem.W.Frag} {h : Heap} {mg : Str → Option Value}
theorem ex_ok (c : Says K) : exK K = true ∧ exN K = true ∧ exV K = true ∧ exT K = true := by
  have m : (exK K && (exN K && (exV K && exT K))) = true := c.more
  obtain ⟨a, m⟩ := He.ba m
  obtain ⟨b, m⟩ := He.ba m
  obtain ⟨d, e⟩ := He.ba m
  exact ⟨a, b, d, e⟩
theorem exV_ok (h : exV K = true) : PySem.W.findCls K (.type "RuntimeError") (.type "type") "__init__" = some (.val (.builtin "RuntimeError.__init__")) := by
  unfold exV at h
  split at h
  · rename_i v e
    rw [e, of_decide_eq_true h]
  · cases h
theorem at_is_integer (X : K.In h) (G : h.Ns mainGlobals mg) (c : Says K) : FnAt K mg "is_integer" s_is_integer := by
  obtain ⟨fd, F⟩ := c.d.def_ 1 (d := d_is_integer) rfl
  exact ⟨_, fd, F, He.glo_ok X G (c.fact 0 (f := .glo "is_integer") rfl)⟩
theorem at_is_between (X : K.In h) (G : h.Ns mainGlobals mg) (c : Says K) : FnAt K mg "is_between" s_is_between := by
  obtain ⟨fd, F⟩ := c.d.def_ 2 (d := d_is_between) rfl
  exact ⟨_, fd, F, He.glo_ok X G (c.fact 1 (f := .glo "is_between") rfl)⟩
theorem at_is_number (X : K.In h) (G : h.Ns mainGlobals mg) (c : Says K) : FnAt K mg "is_number" s_is_number := by
  obtain ⟨fd, F⟩ := c.d.def_ 3 (d := d_is_number) rfl
  exact ⟨_, fd, F, He.glo_ok X G (c.fact 2 (f := .glo "is_number") rfl)⟩
theorem at_is_node (X : K.In h) (G : h.Ns mainGlobals mg) (c : Says K) : FnAt K mg "is_node" s_is_node := by
  obtain ⟨fd, F⟩ := c.d.def_ 4 (d := d_is_node) rfl
  exact ⟨_, fd, F, He.glo_ok X G (c.fact 3 (f := .glo "is_node") rfl)⟩
theorem at_measured (X : K.In h) (G : h.Ns mainGlobals mg) (c : Says K) : FnAt K mg "measured" s_measured := by
  obtain ⟨fd, F⟩ := c.d.def_ 5 (d := d_measured) rfl
  exact ⟨_, fd, F, He.glo_ok X G (c.fact 4 (f := .glo "measured") rfl)⟩
theorem at_measured_parts (X : K.In h) (G : h.Ns mainGlobals mg) (c : Says K) : FnAt K mg "measured_parts" s_measured_parts := by
  obtain ⟨fd, F⟩ := c.d.def_ 6 (d := d_measured_parts) rfl
  exact ⟨_, fd, F, He.glo_ok X G (c.fact 5 (f := .glo "measured_parts") rfl)⟩
theorem at_measured_multiple (X : K.In h) (G : h.Ns mainGlobals mg) (c : Says K) : FnAt K mg "measured_multiple" s_measured_multiple := by
  obtain ⟨fd, F⟩ := c.d.def_ 7 (d := d_measured_multiple) rfl
  exact ⟨_, fd, F, He.glo_ok X G (c.fact 6 (f := .glo "measured_multiple") rfl)⟩
theorem at_is_job (X : K.In h) (G : h.Ns mainGlobals mg) (c : Says K) : FnAt K mg "is_job" s_is_job := by
  obtain ⟨fd, F⟩ := c.d.def_ 8 (d := d_is_job) rfl
  exact ⟨_, fd, F, He.glo_ok X G (c.fact 7 (f := .glo "is_job") rfl)⟩
theorem at_check_job (X : K.In h) (G : h.Ns mainGlobals mg) (c : Says K) : FnAt K mg "check_job" s_check_job := by
  obtain ⟨fd, F⟩ := c.d.def_ 9 (d := d_check_job) rfl
  exact ⟨_, fd, F, He.glo_ok X G (c.fact 8 (f := .glo "check_job") rfl)⟩
theorem at_step_count_by (X : K.In h) (G : h.Ns mainGlobals mg) (c : Says K) : FnAt K mg "step_count_by" s_step_count_by := by
  obtain ⟨fd, F⟩ := c.d.def_ 10 (d := d_step_count_by) rfl
  exact ⟨_, fd, F, He.glo_ok X G (c.fact 9 (f := .glo "step_count_by") rfl)⟩
theorem at_grouped (X : K.In h) (G : h.Ns mainGlobals mg) (c : Says K) : FnAt K mg "grouped" s_grouped := by
  obtain ⟨fd, F⟩ := c.d.def_ 11 (d := d_grouped) rfl
  exact ⟨_, fd, F, He.glo_ok X G (c.fact 10 (f := .glo "grouped") rfl)⟩
theorem at_tidy_parts (X : K.In h) (G : h.Ns mainGlobals mg) (c : Says K) : FnAt K mg "tidy_parts" s_tidy_parts := by
  obtain ⟨fd, F⟩ := c.d.def_ 12 (d := d_tidy_parts) rfl
  exact ⟨_, fd, F, He.glo_ok X G (c.fact 11 (f := .glo "tidy_parts") rfl)⟩
theorem at_tidy_by (X : K.In h) (G : h.Ns mainGlobals mg) (c : Says K) : FnAt K mg "tidy_by" s_tidy_by := by
  obtain ⟨fd, F⟩ := c.d.def_ 13 (d := d_tidy_by) rfl
  exact ⟨_, fd, F, He.glo_ok X G (c.fact 12 (f := .glo "tidy_by") rfl)⟩
theorem at_as_job (X : K.In h) (G : h.Ns mainGlobals mg) (c : Says K) : FnAt K mg "as_job" s_as_job := by
  obtain ⟨fd, F⟩ := c.d.def_ 14 (d := d_as_job) rfl
  exact ⟨_, fd, F, He.glo_ok X G (c.fact 13 (f := .glo "as_job") rfl)⟩
theorem at_descending (X : K.In h) (G : h.Ns mainGlobals mg) (c : Says K) : FnAt K mg "descending" s_descending := by
  obtain ⟨fd, F⟩ := c.d.def_ 15 (d := d_descending) rfl
  exact ⟨_, fd, F, He.glo_ok X G (c.fact 14 (f := .glo "descending") rfl)⟩
theorem at_moved (X : K.In h) (G : h.Ns mainGlobals mg) (c : Says K) : FnAt K mg "moved" s_moved := by
  obtain ⟨fd, F⟩ := c.d.def_ 16 (d := d_moved) rfl
  exact ⟨_, fd, F, He.glo_ok X G (c.fact 15 (f := .glo "moved") rfl)⟩
theorem at_step_profile_by (X : K.In h) (G : h.Ns mainGlobals mg) (c : Says K) : FnAt K mg "step_profile_by" s_step_profile_by := by
  obtain ⟨fd, F⟩ := c.d.def_ 17 (d := d_step_profile_by) rfl
  exact ⟨_, fd, F, He.glo_ok X G (c.fact 16 (f := .glo "step_profile_by") rfl)⟩
theorem at_start_behind (X : K.In h) (G : h.Ns mainGlobals mg) (c : Says K) : FnAt K mg "start_behind" s_start_behind := by
  obtain ⟨fd, F⟩ := c.d.def_ 18 (d := d_start_behind) rfl
  exact ⟨_, fd, F, He.glo_ok X G (c.fact 17 (f := .glo "start_behind") rfl)⟩
theorem at_end_behind (X : K.In h) (G : h.Ns mainGlobals mg) (c : Says K) : FnAt K mg "end_behind" s_end_behind := by
  obtain ⟨fd, F⟩ := c.d.def_ 19 (d := d_end_behind) rfl
  exact ⟨_, fd, F, He.glo_ok X G (c.fact 18 (f := .glo "end_behind") rfl)⟩
theorem at_two_profiles_by (X : K.In h) (G : h.Ns mainGlobals mg) (c : Says K) : FnAt K mg "two_profiles_by" s_two_profiles_by := by
  obtain ⟨fd, F⟩ := c.d.def_ 20 (d := d_two_profiles_by) rfl
  exact ⟨_, fd, F, He.glo_ok X G (c.fact 19 (f := .glo "two_profiles_by") rfl)⟩
theorem at_seq_profiles_by (X : K.In h) (G : h.Ns mainGlobals mg) (c : Says K) : FnAt K mg "seq_profiles_by" s_seq_profiles_by := by
  obtain ⟨fd, F⟩ := c.d.def_ 21 (d := d_seq_profiles_by) rfl
  exact ⟨_, fd, F, He.glo_ok X G (c.fact 20 (f := .glo "seq_profiles_by") rfl)⟩
theorem at_next_drop (X : K.In h) (G : h.Ns mainGlobals mg) (c : Says K) : FnAt K mg "next_drop" s_next_drop := by
  obtain ⟨fd, F⟩ := c.d.def_ 22 (d := d_next_drop) rfl
  exact ⟨_, fd, F, He.glo_ok X G (c.fact 21 (f := .glo "next_drop") rfl)⟩
theorem at_joint (X : K.In h) (G : h.Ns mainGlobals mg) (c : Says K) : FnAt K mg "joint" s_joint := by
  obtain ⟨fd, F⟩ := c.d.def_ 23 (d := d_joint) rfl
  exact ⟨_, fd, F, He.glo_ok X G (c.fact 22 (f := .glo "joint") rfl)⟩
theorem at_peak_beside (X : K.In h) (G : h.Ns mainGlobals mg) (c : Says K) : FnAt K mg "peak_beside" s_peak_beside := by
  obtain ⟨fd, F⟩ := c.d.def_ 24 (d := d_peak_beside) rfl
  exact ⟨_, fd, F, He.glo_ok X G (c.fact 23 (f := .glo "peak_beside") rfl)⟩
theorem at_par_profiles_by (X : K.In h) (G : h.Ns mainGlobals mg) (c : Says K) : FnAt K mg "par_profiles_by" s_par_profiles_by := by
  obtain ⟨fd, F⟩ := c.d.def_ 25 (d := d_par_profiles_by) rfl
  exact ⟨_, fd, F, He.glo_ok X G (c.fact 24 (f := .glo "par_profiles_by") rfl)⟩
theorem at_rounds_start (X : K.In h) (G : h.Ns mainGlobals mg) (c : Says K) : FnAt K mg "rounds_start" s_rounds_start := by
  obtain ⟨fd, F⟩ := c.d.def_ 26 (d := d_rounds_start) rfl
  exact ⟨_, fd, F, He.glo_ok X G (c.fact 25 (f := .glo "rounds_start") rfl)⟩
theorem at_repeat_profile_by (X : K.In h) (G : h.Ns mainGlobals mg) (c : Says K) : FnAt K mg "repeat_profile_by" s_repeat_profile_by := by
  obtain ⟨fd, F⟩ := c.d.def_ 27 (d := d_repeat_profile_by) rfl
  exact ⟨_, fd, F, He.glo_ok X G (c.fact 26 (f := .glo "repeat_profile_by") rfl)⟩
theorem at_copies_start (X : K.In h) (G : h.Ns mainGlobals mg) (c : Says K) : FnAt K mg "copies_start" s_copies_start := by
  obtain ⟨fd, F⟩ := c.d.def_ 28 (d := d_copies_start) rfl
  exact ⟨_, fd, F, He.glo_ok X G (c.fact 27 (f := .glo "copies_start") rfl)⟩
theorem at_copies_profile_by (X : K.In h) (G : h.Ns mainGlobals mg) (c : Says K) : FnAt K mg "copies_profile_by" s_copies_profile_by := by
  obtain ⟨fd, F⟩ := c.d.def_ 29 (d := d_copies_profile_by) rfl
  exact ⟨_, fd, F, He.glo_ok X G (c.fact 28 (f := .glo "copies_profile_by") rfl)⟩
theorem at_profile_by (X : K.In h) (G : h.Ns mainGlobals mg) (c : Says K) : FnAt K mg "profile_by" s_profile_by := by
  obtain ⟨fd, F⟩ := c.d.def_ 30 (d := d_profile_by) rfl
  exact ⟨_, fd, F, He.glo_ok X G (c.fact 29 (f := .glo "profile_by") rfl)⟩
theorem at_least_peak (X : K.In h) (G : h.Ns mainGlobals mg) (c : Says K) : FnAt K mg "least_peak" s_least_peak := by
  obtain ⟨fd, F⟩ := c.d.def_ 31 (d := d_least_peak) rfl
  exact ⟨_, fd, F, He.glo_ok X G (c.fact 30 (f := .glo "least_peak") rfl)⟩
theorem at_inner_at (X : K.In h) (G : h.Ns mainGlobals mg) (c : Says K) : FnAt K mg "inner_at" s_inner_at := by
  obtain ⟨fd, F⟩ := c.d.def_ 32 (d := d_inner_at) rfl
  exact ⟨_, fd, F, He.glo_ok X G (c.fact 31 (f := .glo "inner_at") rfl)⟩
theorem at_step_by (X : K.In h) (G : h.Ns mainGlobals mg) (c : Says K) : FnAt K mg "step_by" s_step_by := by
  obtain ⟨fd, F⟩ := c.d.def_ 33 (d := d_step_by) rfl
  exact ⟨_, fd, F, He.glo_ok X G (c.fact 32 (f := .glo "step_by") rfl)⟩
theorem at_is_address_by (X : K.In h) (G : h.Ns mainGlobals mg) (c : Says K) : FnAt K mg "is_address_by" s_is_address_by := by
  obtain ⟨fd, F⟩ := c.d.def_ 34 (d := d_is_address_by) rfl
  exact ⟨_, fd, F, He.glo_ok X G (c.fact 33 (f := .glo "is_address_by") rfl)⟩
theorem at_step_value (X : K.In h) (G : h.Ns mainGlobals mg) (c : Says K) : FnAt K mg "step_value" s_step_value := by
  obtain ⟨fd, F⟩ := c.d.def_ 35 (d := d_step_value) rfl
  exact ⟨_, fd, F, He.glo_ok X G (c.fact 34 (f := .glo "step_value") rfl)⟩
theorem at_is_name (X : K.In h) (G : h.Ns mainGlobals mg) (c : Says K) : FnAt K mg "is_name" s_is_name := by
  obtain ⟨fd, F⟩ := c.d.def_ 36 (d := d_is_name) rfl
  exact ⟨_, fd, F, He.glo_ok X G (c.fact 35 (f := .glo "is_name") rfl)⟩
theorem at_choices_by (X : K.In h) (G : h.Ns mainGlobals mg) (c : Says K) : FnAt K mg "choices_by" s_choices_by := by
  obtain ⟨fd, F⟩ := c.d.def_ 37 (d := d_choices_by) rfl
  exact ⟨_, fd, F, He.glo_ok X G (c.fact 36 (f := .glo "choices_by") rfl)⟩
theorem at_is_choice_by (X : K.In h) (G : h.Ns mainGlobals mg) (c : Says K) : FnAt K mg "is_choice_by" s_is_choice_by := by
  obtain ⟨fd, F⟩ := c.d.def_ 38 (d := d_is_choice_by) rfl
  exact ⟨_, fd, F, He.glo_ok X G (c.fact 37 (f := .glo "is_choice_by") rfl)⟩
theorem at_check_choice (X : K.In h) (G : h.Ns mainGlobals mg) (c : Says K) : FnAt K mg "check_choice" s_check_choice := by
  obtain ⟨fd, F⟩ := c.d.def_ 39 (d := d_check_choice) rfl
  exact ⟨_, fd, F, He.glo_ok X G (c.fact 38 (f := .glo "check_choice") rfl)⟩
theorem at_left_by (X : K.In h) (G : h.Ns mainGlobals mg) (c : Says K) : FnAt K mg "left_by" s_left_by := by
  obtain ⟨fd, F⟩ := c.d.def_ 40 (d := d_left_by) rfl
  exact ⟨_, fd, F, He.glo_ok X G (c.fact 39 (f := .glo "left_by") rfl)⟩
theorem at_remainder_by (X : K.In h) (G : h.Ns mainGlobals mg) (c : Says K) : FnAt K mg "remainder_by" s_remainder_by := by
  obtain ⟨fd, F⟩ := c.d.def_ 41 (d := d_remainder_by) rfl
  exact ⟨_, fd, F, He.glo_ok X G (c.fact 40 (f := .glo "remainder_by") rfl)⟩
theorem at_choices (X : K.In h) (G : h.Ns mainGlobals mg) (c : Says K) : FnAt K mg "choices" s_choices := by
  obtain ⟨fd, F⟩ := c.d.def_ 42 (d := d_choices) rfl
  exact ⟨_, fd, F, He.glo_ok X G (c.fact 41 (f := .glo "choices") rfl)⟩
theorem at_do_step (X : K.In h) (G : h.Ns mainGlobals mg) (c : Says K) : FnAt K mg "do_step" s_do_step := by
  obtain ⟨fd, F⟩ := c.d.def_ 43 (d := d_do_step) rfl
  exact ⟨_, fd, F, He.glo_ok X G (c.fact 42 (f := .glo "do_step") rfl)⟩
theorem at_check_limit (X : K.In h) (G : h.Ns mainGlobals mg) (c : Says K) : FnAt K mg "check_limit" s_check_limit := by
  obtain ⟨fd, F⟩ := c.d.def_ 44 (d := d_check_limit) rfl
  exact ⟨_, fd, F, He.glo_ok X G (c.fact 43 (f := .glo "check_limit") rfl)⟩
theorem at_joint_of (X : K.In h) (G : h.Ns mainGlobals mg) (c : Says K) : FnAt K mg "joint_of" s_joint_of := by
  obtain ⟨fd, F⟩ := c.d.def_ 45 (d := d_joint_of) rfl
  exact ⟨_, fd, F, He.glo_ok X G (c.fact 44 (f := .glo "joint_of") rfl)⟩
theorem at_usage_in (X : K.In h) (G : h.Ns mainGlobals mg) (c : Says K) : FnAt K mg "usage_in" s_usage_in := by
  obtain ⟨fd, F⟩ := c.d.def_ 46 (d := d_usage_in) rfl
  exact ⟨_, fd, F, He.glo_ok X G (c.fact 45 (f := .glo "usage_in") rfl)⟩
theorem at_need_in (X : K.In h) (G : h.Ns mainGlobals mg) (c : Says K) : FnAt K mg "need_in" s_need_in := by
  obtain ⟨fd, F⟩ := c.d.def_ 47 (d := d_need_in) rfl
  exact ⟨_, fd, F, He.glo_ok X G (c.fact 46 (f := .glo "need_in") rfl)⟩
theorem at_check_joint (X : K.In h) (G : h.Ns mainGlobals mg) (c : Says K) : FnAt K mg "check_joint" s_check_joint := by
  obtain ⟨fd, F⟩ := c.d.def_ 48 (d := d_check_joint) rfl
  exact ⟨_, fd, F, He.glo_ok X G (c.fact 47 (f := .glo "check_joint") rfl)⟩
theorem at_check_safe (X : K.In h) (G : h.Ns mainGlobals mg) (c : Says K) : FnAt K mg "check_safe" s_check_safe := by
  obtain ⟨fd, F⟩ := c.d.def_ 49 (d := d_check_safe) rfl
  exact ⟨_, fd, F, He.glo_ok X G (c.fact 48 (f := .glo "check_safe") rfl)⟩
theorem at_stepped (X : K.In h) (G : h.Ns mainGlobals mg) (c : Says K) : FnAt K mg "stepped" s_stepped := by
  obtain ⟨fd, F⟩ := c.d.def_ 50 (d := d_stepped) rfl
  exact ⟨_, fd, F, He.glo_ok X G (c.fact 49 (f := .glo "stepped") rfl)⟩
theorem at_law_begun (X : K.In h) (G : h.Ns mainGlobals mg) (c : Says K) : FnAt K mg "_law_begun" s_law_begun := by
  obtain ⟨fd, F⟩ := c.d.def_ 61 (d := d_law_begun) rfl
  exact ⟨_, fd, F, He.glo_ok X G (c.fact 50 (f := .glo "_law_begun") rfl)⟩
theorem at_law_draw (X : K.In h) (G : h.Ns mainGlobals mg) (c : Says K) : FnAt K mg "_law_draw" s_law_draw := by
  obtain ⟨fd, F⟩ := c.d.def_ 62 (d := d_law_draw) rfl
  exact ⟨_, fd, F, He.glo_ok X G (c.fact 51 (f := .glo "_law_draw") rfl)⟩
theorem at_law_great (X : K.In h) (G : h.Ns mainGlobals mg) (c : Says K) : FnAt K mg "_law_great" s_law_great := by
  obtain ⟨fd, F⟩ := c.d.def_ 63 (d := d_law_great) rfl
  exact ⟨_, fd, F, He.glo_ok X G (c.fact 52 (f := .glo "_law_great") rfl)⟩
theorem at_law_drawn_step (X : K.In h) (G : h.Ns mainGlobals mg) (c : Says K) : FnAt K mg "_law_drawn_step" s_law_drawn_step := by
  obtain ⟨fd, F⟩ := c.d.def_ 64 (d := d_law_drawn_step) rfl
  exact ⟨_, fd, F, He.glo_ok X G (c.fact 53 (f := .glo "_law_drawn_step") rfl)⟩
theorem at_law_drawn_job (X : K.In h) (G : h.Ns mainGlobals mg) (c : Says K) : FnAt K mg "_law_drawn_job" s_law_drawn_job := by
  obtain ⟨fd, F⟩ := c.d.def_ 65 (d := d_law_drawn_job) rfl
  exact ⟨_, fd, F, He.glo_ok X G (c.fact 54 (f := .glo "_law_drawn_job") rfl)⟩
theorem at_law_great_job (X : K.In h) (G : h.Ns mainGlobals mg) (c : Says K) : FnAt K mg "_law_great_job" s_law_great_job := by
  obtain ⟨fd, F⟩ := c.d.def_ 66 (d := d_law_great_job) rfl
  exact ⟨_, fd, F, He.glo_ok X G (c.fact 55 (f := .glo "_law_great_job") rfl)⟩
theorem at_law_drawn_names (X : K.In h) (G : h.Ns mainGlobals mg) (c : Says K) : FnAt K mg "_law_drawn_names" s_law_drawn_names := by
  obtain ⟨fd, F⟩ := c.d.def_ 67 (d := d_law_drawn_names) rfl
  exact ⟨_, fd, F, He.glo_ok X G (c.fact 56 (f := .glo "_law_drawn_names") rfl)⟩
theorem at_law_drawn_row (X : K.In h) (G : h.Ns mainGlobals mg) (c : Says K) : FnAt K mg "_law_drawn_row" s_law_drawn_row := by
  obtain ⟨fd, F⟩ := c.d.def_ 68 (d := d_law_drawn_row) rfl
  exact ⟨_, fd, F, He.glo_ok X G (c.fact 57 (f := .glo "_law_drawn_row") rfl)⟩
theorem at_law_mix (X : K.In h) (G : h.Ns mainGlobals mg) (c : Says K) : FnAt K mg "_law_mix" s_law_mix := by
  obtain ⟨fd, F⟩ := c.d.def_ 69 (d := d_law_mix) rfl
  exact ⟨_, fd, F, He.glo_ok X G (c.fact 58 (f := .glo "_law_mix") rfl)⟩
theorem at_law_led (X : K.In h) (G : h.Ns mainGlobals mg) (c : Says K) : FnAt K mg "_law_led" s_law_led := by
  obtain ⟨fd, F⟩ := c.d.def_ 70 (d := d_law_led) rfl
  exact ⟨_, fd, F, He.glo_ok X G (c.fact 59 (f := .glo "_law_led") rfl)⟩
theorem at_law (X : K.In h) (G : h.Ns mainGlobals mg) (c : Says K) : FnAt K mg "law" s_law := by
  obtain ⟨fd, F⟩ := c.d.def_ 71 (d := d_law) rfl
  exact ⟨_, fd, F, He.glo_ok X G (c.fact 60 (f := .glo "law") rfl)⟩
theorem tx_of (X : K.In h) (G : h.Ns mainGlobals mg) (c : Says K) : Tx K mg := by
  obtain ⟨q1, q2, q3, q4⟩ := ex_ok c
  unfold exT at q4
  obtain ⟨t0, q4⟩ := He.ba q4
  obtain ⟨t1, q4⟩ := He.ba q4
  obtain ⟨t2, q4⟩ := He.ba q4
  have t3 := q4
  exact {
    f_is_integer := at_is_integer X G c
    f_is_between := at_is_between X G c
    f_is_number := at_is_number X G c
    f_is_node := at_is_node X G c
    f_measured := at_measured X G c
    f_measured_parts := at_measured_parts X G c
    f_measured_multiple := at_measured_multiple X G c
    f_is_job := at_is_job X G c
    f_check_job := at_check_job X G c
    f_step_count_by := at_step_count_by X G c
    f_grouped := at_grouped X G c
    f_tidy_parts := at_tidy_parts X G c
    f_tidy_by := at_tidy_by X G c
    f_as_job := at_as_job X G c
    f_descending := at_descending X G c
    f_moved := at_moved X G c
    f_step_profile_by := at_step_profile_by X G c
    f_start_behind := at_start_behind X G c
    f_end_behind := at_end_behind X G c
    f_two_profiles_by := at_two_profiles_by X G c
    f_seq_profiles_by := at_seq_profiles_by X G c
    f_next_drop := at_next_drop X G c
    f_joint := at_joint X G c
    f_peak_beside := at_peak_beside X G c
    f_par_profiles_by := at_par_profiles_by X G c
    f_rounds_start := at_rounds_start X G c
    f_repeat_profile_by := at_repeat_profile_by X G c
    f_copies_start := at_copies_start X G c
    f_copies_profile_by := at_copies_profile_by X G c
    f_profile_by := at_profile_by X G c
    f_least_peak := at_least_peak X G c
    f_inner_at := at_inner_at X G c
    f_step_by := at_step_by X G c
    f_is_address_by := at_is_address_by X G c
    f_step_value := at_step_value X G c
    f_is_name := at_is_name X G c
    f_choices_by := at_choices_by X G c
    f_is_choice_by := at_is_choice_by X G c
    f_check_choice := at_check_choice X G c
    f_left_by := at_left_by X G c
    f_remainder_by := at_remainder_by X G c
    f_choices := at_choices X G c
    f_do_step := at_do_step X G c
    f_check_limit := at_check_limit X G c
    f_joint_of := at_joint_of X G c
    f_usage_in := at_usage_in X G c
    f_need_in := at_need_in X G c
    f_check_joint := at_check_joint X G c
    f_check_safe := at_check_safe X G c
    f_stepped := at_stepped X G c
    f_law_begun := at_law_begun X G c
    f_law_draw := at_law_draw X G c
    f_law_great := at_law_great X G c
    f_law_drawn_step := at_law_drawn_step X G c
    f_law_drawn_job := at_law_drawn_job X G c
    f_law_great_job := at_law_great_job X G c
    f_law_drawn_names := at_law_drawn_names X G c
    f_law_drawn_row := at_law_drawn_row X G c
    f_law_mix := at_law_mix X G c
    f_law_led := at_law_led X G c
    f_law := at_law X G c
    b_isinstance := He.free_ok X G (c.fact 67 (f := .free "isinstance") rfl)
    b_int := He.free_ok X G (c.fact 68 (f := .free "int") rfl)
    b_bool := He.free_ok X G (c.fact 69 (f := .free "bool") rfl)
    b_tuple := He.free_ok X G (c.fact 70 (f := .free "tuple") rfl)
    b_str := He.free_ok X G (c.fact 71 (f := .free "str") rfl)
    b_len := He.free_ok X G (c.fact 72 (f := .free "len") rfl)
    b_sum := He.free_ok X G (c.fact 73 (f := .free "sum") rfl)
    b_sorted := He.free_ok X G (c.fact 74 (f := .free "sorted") rfl)
    b_max := He.free_ok X G (c.fact 75 (f := .free "max") rfl)
    b_min := He.free_ok X G (c.fact 76 (f := .free "min") rfl)
    b_enumerate := He.free_ok X G (c.fact 77 (f := .free "enumerate") rfl)
    b_zip := He.free_ok X G (c.fact 78 (f := .free "zip") rfl)
    b_range := He.free_ok X G (c.fact 79 (f := .free "range") rfl)
    b_all := He.free_ok X G (c.fact 80 (f := .free "all") rfl)
    b_abs := He.free_ok X G (c.fact 81 (f := .free "abs") rfl)
    b_dict := He.free_ok X G (c.fact 82 (f := .free "dict") rfl)
    c_MAX_INTEGER := He.int_ok X G (c.fact 84 (f := .int "MAX_INTEGER" 9999999999999999999999999999999999999999999999999999999999999) rfl)
    c_MAX_STEP := He.int_ok X G (c.fact 85 (f := .int "MAX_STEP" 1000000000000000000000000000000) rfl)
    c_MAX_COUNT := He.int_ok X G (c.fact 86 (f := .int "MAX_COUNT" 1000000000000000000000000000000) rfl)
    c_MAX_PARTS := He.int_ok X G (c.fact 87 (f := .int "MAX_PARTS" 400) rfl)
    c_MAX_NODES := He.int_ok X G (c.fact 88 (f := .int "MAX_NODES" 400) rfl)
    c_MAX_DEPTH := He.int_ok X G (c.fact 89 (f := .int "MAX_DEPTH" 13) rfl)
    c_MAX_JOBS := He.int_ok X G (c.fact 90 (f := .int "MAX_JOBS" 20) rfl)
    c_MAX_LETTERS := He.int_ok X G (c.fact 91 (f := .int "MAX_LETTERS" 8) rfl)
    c_LETTERS := He.str_ok X G (c.fact 92 (f := .str "LETTERS" "abcdefghijklmnopqrstuvwxyz") rfl)
    c_GROUPS := He.glo_ok X G (c.fact 61 (f := .glo "GROUPS") rfl)
    k_GROUPS := ktup_of t0
    c_MULTIPLES := He.glo_ok X G (c.fact 62 (f := .glo "MULTIPLES") rfl)
    k_MULTIPLES := ktup_of t1
    c_EMPTY_jobs := He.glo_ok X G (c.fact 63 (f := .glo "EMPTY_jobs") rfl)
    k_EMPTY_jobs := ktup_of t2
    c_EMPTY_basic := He.glo_ok X G (c.fact 64 (f := .glo "EMPTY_basic") rfl)
    k_EMPTY_basic := ktup_of t3 }
theorem me_usage (c : Says K) : MethAt K (He.ga K "Keeper") "usage" "Keeper.usage" s_Keeper_usage := by
  obtain ⟨fd, F⟩ := c.d.def_ 52 (d := d_Keeper_usage) rfl
  exact ⟨_, fd, F, He.meth_ok (c.fact 98 (f := .meth "Keeper" "usage") rfl)⟩
theorem me_need (c : Says K) : MethAt K (He.ga K "Keeper") "need" "Keeper.need" s_Keeper_need := by
  obtain ⟨fd, F⟩ := c.d.def_ 53 (d := d_Keeper_need) rfl
  exact ⟨_, fd, F, He.meth_ok (c.fact 99 (f := .meth "Keeper" "need") rfl)⟩
theorem me_check_known (c : Says K) : MethAt K (He.ga K "Keeper") "check_known" "Keeper.check_known" s_Keeper_check_known := by
  obtain ⟨fd, F⟩ := c.d.def_ 54 (d := d_Keeper_check_known) rfl
  exact ⟨_, fd, F, He.meth_ok (c.fact 100 (f := .meth "Keeper" "check_known") rfl)⟩
theorem me_remaining (c : Says K) : MethAt K (He.ga K "Keeper") "remaining" "Keeper.remaining" s_Keeper_remaining := by
  obtain ⟨fd, F⟩ := c.d.def_ 55 (d := d_Keeper_remaining) rfl
  exact ⟨_, fd, F, He.meth_ok (c.fact 101 (f := .meth "Keeper" "remaining") rfl)⟩
theorem me_change (c : Says K) : MethAt K (He.ga K "Keeper") "change" "Keeper.change" s_Keeper_change := by
  obtain ⟨fd, F⟩ := c.d.def_ 56 (d := d_Keeper_change) rfl
  exact ⟨_, fd, F, He.meth_ok (c.fact 102 (f := .meth "Keeper" "change") rfl)⟩
theorem me_admit (c : Says K) : MethAt K (He.ga K "Keeper") "admit" "Keeper.admit" s_Keeper_admit := by
  obtain ⟨fd, F⟩ := c.d.def_ 57 (d := d_Keeper_admit) rfl
  exact ⟨_, fd, F, He.meth_ok (c.fact 103 (f := .meth "Keeper" "admit") rfl)⟩
theorem me_after (c : Says K) : MethAt K (He.ga K "Keeper") "after" "Keeper.after" s_Keeper_after := by
  obtain ⟨fd, F⟩ := c.d.def_ 58 (d := d_Keeper_after) rfl
  exact ⟨_, fd, F, He.meth_ok (c.fact 104 (f := .meth "Keeper" "after") rfl)⟩
theorem me_grant (c : Says K) : MethAt K (He.ga K "Keeper") "grant" "Keeper.grant" s_Keeper_grant := by
  obtain ⟨fd, F⟩ := c.d.def_ 59 (d := d_Keeper_grant) rfl
  exact ⟨_, fd, F, He.meth_ok (c.fact 105 (f := .meth "Keeper" "grant") rfl)⟩
theorem me_eq (c : Says K) : MethAt K (He.ga K "Keeper") "__eq__" "Keeper.__eq__" s_Keeper___eq := by
  obtain ⟨fd, F⟩ := c.d.def_ 60 (d := d_Keeper___eq) rfl
  exact ⟨_, fd, F, He.meth_ok (c.fact 106 (f := .meth "Keeper" "__eq__") rfl)⟩
theorem tk_of (X : K.In h) (G : h.Ns mainGlobals mg) (c : Says K) : Tk K mg := by
  obtain ⟨q1, q2, q3, q4⟩ := ex_ok c
  unfold exK at q1
  obtain ⟨a1, q1⟩ := He.ba q1
  obtain ⟨a2, q1⟩ := He.ba q1
  obtain ⟨a3, a4⟩ := He.ba q1
  unfold exN at q2
  obtain ⟨b1, q2⟩ := He.ba q2
  obtain ⟨b2, q2⟩ := He.ba q2
  obtain ⟨b3, q2⟩ := He.ba q2
  obtain ⟨b4, q2⟩ := He.ba q2
  obtain ⟨b5, q2⟩ := He.ba q2
  obtain ⟨b6, q2⟩ := He.ba q2
  obtain ⟨b7, b8⟩ := He.ba q2
  exact {
    toTx := tx_of X G c
    kp_g := He.glo_ok X G (c.fact 65 (f := .glo "Keeper") rfl)
    kp_cls := He.cls_ok (c.fact 93 (f := .cls "Keeper") rfl)
    no_limit := He.noat_ok (c.fact 94 (f := .noat "Keeper" "limit") rfl)
    no_jobs := He.noat_ok (c.fact 95 (f := .noat "Keeper" "jobs") rfl)
    no_rows := He.noat_ok (c.fact 96 (f := .noat "Keeper" "rows") rfl)
    no_earlier := He.noat_ok (c.fact 97 (f := .noat "Keeper" "earlier") rfl)
    m_usage := me_usage c
    m_need := me_need c
    m_check_known := me_check_known c
    m_remaining := me_remaining c
    m_change := me_change c
    m_admit := me_admit c
    m_after := me_after c
    m_grant := me_grant c
    m_init := by
      obtain ⟨fd, F⟩ := c.d.def_ 51 (d := d_Keeper___init) rfl
      exact ⟨_, fd, F, He.mkr_ok (c.fact 107 (f := .mkr "Keeper") rfl)⟩
    m_eq := me_eq c
    kp_c1 := He.eqO_ok a1
    kp_c2 := He.eqO_ok a2
    kp_c3 := of_decide_eq_true a3
    kp_c4 := of_decide_eq_true a4
    ne_g := He.glo_ok X G (c.fact 66 (f := .glo "NotEnough") rfl)
    ne_c := ⟨reB_ok b1, He.eqO_ok b2, of_decide_eq_true b3, of_decide_eq_true b4, b5⟩
    ne_no := He.eqO_ok b6
    ne_init := by
      obtain ⟨fd, F⟩ := c.d.def_ 0 (d := d_NotEnough___init) rfl
      exact ⟨_, fd, F, He.eqO_ok b7, of_decide_eq_true b8⟩
    ne_b := He.free_ok X G (c.fact 83 (f := .free "RuntimeError") rfl)
    ne_v := exV_ok q3
    ne_te := He.exm_ok (c.fact 108 (f := .exm "NotEnough" "NotEnough" true) rfl) }
end
end RP
end
section
set_option autoImplicit false
set_option maxHeartbeats 0
namespace RP
open PySem PySem.Spec PyProof.Rows L2
open HandSHeadRun
theorem join5 {σ A1 A2 A3 A4 A5 : Type} {X : Option σ} {f1 : σ → A1} {f2 : σ → A2} {f3 : σ → A3} {f4 : σ → A4} {f5 : σ → A5} {v1 : A1} {v2 : A2} {v3 : A3} {v4 : A4} {v5 : A5}
    (h1 : X.map f1 = some v1) (h2 : X.map f2 = some v2) (h3 : X.map f3 = some v3) (h4 : X.map f4 = some v4) (h5 : X.map f5 = some v5) : X.map (fun s => (f1 s, f2 s, (f3 s, (f4 s, f5 s)))) = some (v1, v2, (v3, (v4, v5))) := by
  cases X with
  | none => cases h1
  | some s =>
    have e1 : f1 s = v1 := Option.some.inj h1
    have e2 : f2 s = v2 := Option.some.inj h2
    have e3 : f3 s = v3 := Option.some.inj h3
    have e4 : f4 s = v4 := Option.some.inj h4
    have e5 : f5 s = v5 := Option.some.inj h5
    show some (f1 s, f2 s, f3 s, f4 s, f5 s) = _
    rw [e1, e2, e3, e4, e5]
def obF (K : PySem.W.Frag) : Bool × (He.AlD × Bool) := (fa.all fun f => f.ok K, (He.obsD [] fn K, ex K))
def valF : Bool × (He.AlD × Bool) := (true, (He.valD fn, true))
def hkF : PySem.W.Hook where
  α := Bool × (He.AlD × Bool)
  obs := fun s => obF (He.frG s.heap.get? (He.asD s.heap.get? 4))
  val := fun _ => valF
  says := fun _ h => ∃ K : PySem.W.Frag, K.In h ∧ obF K = valF
  of := fun _ _ e => ⟨_, He.frG_in, e⟩
  keeps := fun _ _ _ ⟨K, hK, c⟩ k => ⟨K, PySem.W.Frag.In.keeps hK k, c⟩
noncomputable def obS (s : PySem.W.SharedT) : Bool × (He.AlD × Bool) := obF (fr s)
theorem obS_eq (s : PySem.W.SharedT) : obS s = hkF.obs s.abs := by
  have e : getT s = s.abs.heap.get? := funext (getT_eq s)
  show obF (He.frG (getT s) (He.asD (getT s) 4)) = obF (He.frG s.abs.heap.get? (He.asD s.abs.heap.get? 4))
  rw [e]
theorem run_all (w : World) : RunEq Rw vw hkF obS 6000 ln w := fun os => join5 (run1 w os) (run2 w os) (run3 w os) (run4 w os) (run5 w os)
theorem says_of {K : PySem.W.Frag} (e : obF K = valF) : Says K := by
  have e1 : (fa.all fun f => f.ok K) = true := congrArg (fun z : Bool × (He.AlD × Bool) => z.1) e
  have e2 : He.obsD [] fn K = He.valD fn := congrArg (fun z : Bool × (He.AlD × Bool) => z.2.1) e
  have e3 : ex K = true := congrArg (fun z : Bool × (He.AlD × Bool) => z.2.2) e
  exact ⟨e1, e2, e3⟩
theorem scr_of {K : PySem.W.Frag} {H : Hp} {a : Addr} {ns : List Int} (hO : Only H) (hS : SqL K H a (ns.map V.int)) : ScrR K ns H (.ref a) := by
  rcases hS with (h | ⟨o, h⟩) | h
  · rcases hO a with z | ⟨o, xs, z⟩
    · rw [z] at h
      cases h
    · rw [z] at h
      cases h
  · exact ⟨a, rfl, .inl ⟨o, h⟩⟩
  · exact ⟨a, rfl, .inr h⟩
theorem facts {P : Program} {w : World} {K : PySem.W.Frag} {h : Heap} {mg : Str → Option Value} {f : Addr} (X : K.In h) (G : h.Ns mainGlobals mg) (hfa : mg ("law" : Str) = some (.ref f)) (c : Says K) :
    ∃ fd : FuncData, (∀ (s : Shared) (v : Value), BindsTo s fd ⟨[v], []⟩ [("_law_script", v)]) ∧ ∀ base : Heap, K.In base → base.Ns mainGlobals mg → FnOk P w K mg base CX0 40 f fd ["_law_script"] (spF K (pr_law K)) := by
  have T := tk_of X G c
  obtain ⟨f', fd, F, hm⟩ := T.f_law
  rw [hm] at hfa
  cases hfa
  have b := FunD.bindsA (ps := ["_law_script"]) F fun _ _ _ _ _ _ us hl => match us, hl with | [_], _ => rfl
  exact ⟨fd, fun s v => b s [v] rfl, fun base _ _ => w_law T F⟩
end RP
end
set_option maxHeartbeats 0
open PySem PySem.W PySem.Calls PyProof.Rows
theorem PySem.Challenge.cw_roomprofile_k76_whole_orders_of_grants_holds : PySem.Challenge.rw_roomprofile_k76_whole_orders_of_grants.Holds := by
  w_on; o_law
  refine HandSHeadRun.head_any (r := OpenLaw.row PySem.Challenge.rw_roomprofile_k76_whole_orders_of_grants) (q := RP.vw) (H := RP.hkF) (ob := RP.obS) (M := 6000) (loose := RP.ln) (d := HandSHeadRun.topDef (OpenLaw.row PySem.Challenge.rw_roomprofile_k76_whole_orders_of_grants).prog 97) (kwd := []) RP.obS_eq
    (by kernel_rfl) (fun s => by kernel_rfl) RP.run_all (by kernel_rfl) (by kernel_rfl) (by kernel_rfl) (by rfl) (by first | assumption | decide +kernel) (by decide +kernel) ⟨rfl, rfl, rfl, rfl, rfl, by decide +kernel⟩ ?hw ?hc
  case hw => w_witness2
  case hc =>
    refine L2.walk_ofE (l := PySem.Challenge.rw_roomprofile_k76_whole_orders_of_grants) (n := 63) (k := 40) (x := "_law_script") (CX := L2.CX0) rfl (by decide) (by kernel_rfl) ⟨rfl, by decide, by decide⟩ ?F (fun _ _ _ _ z => z)
    intro w mg fa h Y G hmg0
    obtain ⟨K, KX, c⟩ := Y
    have hmg : mg ("law" : PySem.Str) = some (.ref fa) := by
      have e : (HandSHeadRun.topDef (OpenLaw.row PySem.Challenge.rw_roomprofile_k76_whole_orders_of_grants).prog 97).name = ("law" : PySem.Str) := by kernel_rfl
      rw [← e]
      exact hmg0
    obtain ⟨fd, hb, hF⟩ := RP.facts (P := PySem.Challenge.rw_roomprofile_k76_whole_orders_of_grants.prog) (w := w) KX G hmg (RP.says_of c)
    exact ⟨K, fd, RP.spF K (RP.pr_law K), KX, hb, fun H a ns hl hO hS => ⟨[.g (RP.ScrR K ns)], .d (.bool true), ⟨ns, rfl, rfl⟩, ⟨RP.scrR_fst (RP.scr_of hO hS), trivial⟩, fun v H' _ r => RP.Dt.isBool r⟩, hF⟩
