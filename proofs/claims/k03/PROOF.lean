import PyProof.Rows.All
import Wide.All
import OpenK.AllK
import Wide.FinOn
import KE.KStateDown
import Lean
import HandS.ForMost
import HandS.Flow
import HandS.Style
import HandS.Wide
import HandS.IsInst
import HandS.TupAny
import HandS.More
import HandS.WordsExc
import HandS.Defaults
import HandS.Lambda
import HandS.Head0
import HandS.Head1
import HandS.Head2
import HandS.HeadEnd
import HandS.HeadHook1
import HandS.HeadHook2
import HandS.EndBits
import HandS.EndTab
import HandS.Walk
import HandS.TryOnly
import HandS.StrSplit
import HandS.ListItems
import HandS.DictComp
import PySem.Challenge.RW_controlplane_k03_whole_selectors_matched
set_option Elab.async false
set_option linter.all false
set_option maxRecDepth 100000
set_option maxHeartbeats 4000000
namespace Lk
open PySem PySem.Spec PyProof.Rows L2
def topS (i : Nat) : Stmt := PySem.Challenge.pw_controlplane_k03_whole_selectors_matched.main.body.getD i (.Pass ⟨0, 0, 0, 0⟩)
abbrev s_is_user_name : Stmt := topS 8
abbrev N_is_user_name : List Str := ["value", "sign"]
abbrev ps_is_user_name : List Str := ["value"]
theorem sc_is_user_name : FnScope N_is_user_name ps_is_user_name (defScope s_is_user_name) := ⟨rfl, rfl, rfl, by decide +kernel, rfl, by decide +kernel, by decide +kernel⟩
abbrev s_is_label_value : Stmt := topS 13
abbrev N_is_label_value : List Str := ["value", "sign"]
abbrev ps_is_label_value : List Str := ["value"]
theorem sc_is_label_value : FnScope N_is_label_value ps_is_label_value (defScope s_is_label_value) := ⟨rfl, rfl, rfl, by decide +kernel, rfl, by decide +kernel, by decide +kernel⟩
abbrev s_is_labels : Stmt := topS 14
abbrev N_is_labels : List Str := ["value", "name", "text"]
abbrev ps_is_labels : List Str := ["value"]
theorem sc_is_labels : FnScope N_is_labels ps_is_labels (defScope s_is_labels) := ⟨rfl, rfl, rfl, by decide +kernel, rfl, by decide +kernel, by decide +kernel⟩
abbrev s_requirement : Stmt := topS 15
abbrev N_requirement : List Str := ["text", "found", "name", "value"]
abbrev ps_requirement : List Str := ["text"]
theorem sc_requirement : FnScope N_requirement ps_requirement (defScope s_requirement) := ⟨rfl, rfl, rfl, by decide +kernel, rfl, by decide +kernel, by decide +kernel⟩
abbrev s_rows_of : Stmt := topS 16
abbrev N_rows_of : List Str := ["selector", "parts", "rows", "row", "part"]
abbrev ps_rows_of : List Str := ["selector"]
theorem sc_rows_of : FnScope N_rows_of ps_rows_of (defScope s_rows_of) := ⟨rfl, rfl, rfl, by decide +kernel, rfl, by decide +kernel, by decide +kernel⟩
abbrev s_is_selector : Stmt := topS 17
abbrev N_is_selector : List Str := ["value"]
abbrev ps_is_selector : List Str := ["value"]
theorem sc_is_selector : FnScope N_is_selector ps_is_selector (defScope s_is_selector) := ⟨rfl, rfl, rfl, by decide +kernel, rfl, by decide +kernel, by decide +kernel⟩
abbrev s_requirements : Stmt := topS 18
abbrev N_requirements : List Str := ["selector", "found"]
abbrev ps_requirements : List Str := ["selector"]
theorem sc_requirements : FnScope N_requirements ps_requirements (defScope s_requirements) := ⟨rfl, rfl, rfl, by decide +kernel, rfl, by decide +kernel, by decide +kernel⟩
abbrev s_is_fulfilled : Stmt := topS 19
abbrev N_is_fulfilled : List Str := ["row", "labels", "name", "word", "value"]
abbrev ps_is_fulfilled : List Str := ["row", "labels"]
theorem sc_is_fulfilled : FnScope N_is_fulfilled ps_is_fulfilled (defScope s_is_fulfilled) := ⟨rfl, rfl, rfl, by decide +kernel, rfl, by decide +kernel, by decide +kernel⟩
abbrev s_matches : Stmt := topS 20
abbrev N_matches : List Str := ["selector", "labels", "rows", "row"]
abbrev ps_matches : List Str := ["selector", "labels"]
theorem sc_matches : FnScope N_matches ps_matches (defScope s_matches) := ⟨rfl, rfl, rfl, by decide +kernel, rfl, by decide +kernel, by decide +kernel⟩
abbrev s__law_cell_at : Stmt := topS 22
abbrev N__law_cell_at : List Str := ["_law_script", "_law_k"]
abbrev ps__law_cell_at : List Str := ["_law_script", "_law_k"]
theorem sc__law_cell_at : FnScope N__law_cell_at ps__law_cell_at (defScope s__law_cell_at) := ⟨rfl, rfl, rfl, by decide +kernel, rfl, by decide +kernel, by decide +kernel⟩
abbrev s__law_source : Stmt := topS 23
abbrev N__law_source : List Str := ["_law_cell"]
abbrev ps__law_source : List Str := ["_law_cell"]
theorem sc__law_source : FnScope N__law_source ps__law_source (defScope s__law_source) := ⟨rfl, rfl, rfl, by decide +kernel, rfl, by decide +kernel, by decide +kernel⟩
abbrev s__law_draw : Stmt := topS 24
abbrev N__law_draw : List Str := ["_law_source_here", "_law_size", "_law_digit", "_law_number"]
abbrev ps__law_draw : List Str := ["_law_source_here", "_law_size"]
theorem sc__law_draw : FnScope N__law_draw ps__law_draw (defScope s__law_draw) := ⟨rfl, rfl, rfl, by decide +kernel, rfl, by decide +kernel, by decide +kernel⟩
abbrev s__law_pick : Stmt := topS 25
abbrev N__law_pick : List Str := ["_law_source_here", "_law_items"]
abbrev ps__law_pick : List Str := ["_law_source_here", "_law_items"]
theorem sc__law_pick : FnScope N__law_pick ps__law_pick (defScope s__law_pick) := ⟨rfl, rfl, rfl, by decide +kernel, rfl, by decide +kernel, by decide +kernel⟩
abbrev s__law_value : Stmt := topS 26
abbrev N__law_value : List Str := ["_law_source_here"]
abbrev ps__law_value : List Str := ["_law_source_here"]
theorem sc__law_value : FnScope N__law_value ps__law_value (defScope s__law_value) := ⟨rfl, rfl, rfl, by decide +kernel, rfl, by decide +kernel, by decide +kernel⟩
abbrev s__law_requirement : Stmt := topS 27
abbrev N__law_requirement : List Str := ["_law_source_here", "_law_names", "_law_name", "_law_verb"]
abbrev ps__law_requirement : List Str := ["_law_source_here", "_law_names"]
theorem sc__law_requirement : FnScope N__law_requirement ps__law_requirement (defScope s__law_requirement) := ⟨rfl, rfl, rfl, by decide +kernel, rfl, by decide +kernel, by decide +kernel⟩
abbrev s__law_text : Stmt := topS 28
abbrev N__law_text : List Str := ["_law_rows_here", "_law_found", "_law_name", "_law_verb", "_law_value_here", "_law_mark"]
abbrev ps__law_text : List Str := ["_law_rows_here"]
theorem sc__law_text : FnScope N__law_text ps__law_text (defScope s__law_text) := ⟨rfl, rfl, rfl, by decide +kernel, rfl, by decide +kernel, by decide +kernel⟩
abbrev s__law_rows : Stmt := topS 29
abbrev N__law_rows : List Str := ["_law_source_here", "_law_names", "_law_most", "_law_k"]
abbrev ps__law_rows : List Str := ["_law_source_here", "_law_names", "_law_most"]
theorem sc__law_rows : FnScope N__law_rows ps__law_rows (defScope s__law_rows) := ⟨rfl, rfl, rfl, by decide +kernel, rfl, by decide +kernel, by decide +kernel⟩
abbrev s__law_fulfils : Stmt := topS 30
abbrev N__law_fulfils : List Str := ["_law_rows_here", "_law_labels_here", "_law_name", "_law_verb", "_law_value_here"]
abbrev ps__law_fulfils : List Str := ["_law_rows_here", "_law_labels_here"]
theorem sc__law_fulfils : FnScope N__law_fulfils ps__law_fulfils (defScope s__law_fulfils) := ⟨rfl, rfl, rfl, by decide +kernel, rfl, by decide +kernel, by decide +kernel⟩
abbrev s__law_all_labels : Stmt := topS 31
abbrev N__law_all_labels : List Str := ["_law_names", "_law_values", "_law_found", "_law_name", "_law_more", "_law_labels_here", "_law_value_here"]
abbrev ps__law_all_labels : List Str := ["_law_names", "_law_values"]
theorem sc__law_all_labels : FnScope N__law_all_labels ps__law_all_labels (defScope s__law_all_labels) := ⟨rfl, rfl, rfl, by decide +kernel, rfl, by decide +kernel, by decide +kernel⟩
abbrev s__law_labels : Stmt := topS 32
abbrev N__law_labels : List Str := ["_law_source_here", "_law_names", "_law_left", "_law_found", "_law_k"]
abbrev ps__law_labels : List Str := ["_law_source_here", "_law_names"]
theorem sc__law_labels : FnScope N__law_labels ps__law_labels (defScope s__law_labels) := ⟨rfl, rfl, rfl, by decide +kernel, rfl, by decide +kernel, by decide +kernel⟩
abbrev s_law : Stmt := topS 33
abbrev N_law : List Str := ["_law_script", "_law_cell", "_law_source_here", "_law_names", "_law_rows_here", "_law_text_here", "_law_k", "_law_labels_here", "_law_turned", "_law_due", "_law_kept"]
abbrev ps_law : List Str := ["_law_script"]
theorem sc_law : FnScope N_law ps_law (defScope s_law) := ⟨rfl, rfl, rfl, by decide +kernel, rfl, by decide +kernel, by decide +kernel⟩
abbrev FnP (K : PySem.W.Frag) (x : Str) (st : Stmt) (dvs : List V) (fd : FuncData) : Prop := FunD K x x (defArgs st) (defBody st) (defScope st) dvs [] (He.ga K x) fd
structure Txt (K : PySem.W.Frag) (mg : Str → Option Value) : Prop where
  g_is_user_name : mg "is_user_name" = some (.ref (He.ga K "is_user_name"))
  d_is_user_name : ∃ fd, FnP K "is_user_name" s_is_user_name [] fd
  g_is_label_value : mg "is_label_value" = some (.ref (He.ga K "is_label_value"))
  d_is_label_value : ∃ fd, FnP K "is_label_value" s_is_label_value [] fd
  g_is_labels : mg "is_labels" = some (.ref (He.ga K "is_labels"))
  d_is_labels : ∃ fd, FnP K "is_labels" s_is_labels [] fd
  g_requirement : mg "requirement" = some (.ref (He.ga K "requirement"))
  d_requirement : ∃ fd, FnP K "requirement" s_requirement [] fd
  g_rows_of : mg "rows_of" = some (.ref (He.ga K "rows_of"))
  d_rows_of : ∃ fd, FnP K "rows_of" s_rows_of [] fd
  g_is_selector : mg "is_selector" = some (.ref (He.ga K "is_selector"))
  d_is_selector : ∃ fd, FnP K "is_selector" s_is_selector [] fd
  g_requirements : mg "requirements" = some (.ref (He.ga K "requirements"))
  d_requirements : ∃ fd, FnP K "requirements" s_requirements [] fd
  g_is_fulfilled : mg "is_fulfilled" = some (.ref (He.ga K "is_fulfilled"))
  d_is_fulfilled : ∃ fd, FnP K "is_fulfilled" s_is_fulfilled [] fd
  g_matches : mg "matches" = some (.ref (He.ga K "matches"))
  d_matches : ∃ fd, FnP K "matches" s_matches [] fd
  g__law_cell_at : mg "_law_cell_at" = some (.ref (He.ga K "_law_cell_at"))
  d__law_cell_at : ∃ fd, FnP K "_law_cell_at" s__law_cell_at [] fd
  g__law_source : mg "_law_source" = some (.ref (He.ga K "_law_source"))
  d__law_source : ∃ fd, FnP K "_law_source" s__law_source [] fd
  g__law_draw : mg "_law_draw" = some (.ref (He.ga K "_law_draw"))
  d__law_draw : ∃ fd, FnP K "_law_draw" s__law_draw [] fd
  g__law_pick : mg "_law_pick" = some (.ref (He.ga K "_law_pick"))
  d__law_pick : ∃ fd, FnP K "_law_pick" s__law_pick [] fd
  g__law_value : mg "_law_value" = some (.ref (He.ga K "_law_value"))
  d__law_value : ∃ fd, FnP K "_law_value" s__law_value [] fd
  g__law_requirement : mg "_law_requirement" = some (.ref (He.ga K "_law_requirement"))
  d__law_requirement : ∃ fd, FnP K "_law_requirement" s__law_requirement [] fd
  g__law_text : mg "_law_text" = some (.ref (He.ga K "_law_text"))
  d__law_text : ∃ fd, FnP K "_law_text" s__law_text [] fd
  g__law_rows : mg "_law_rows" = some (.ref (He.ga K "_law_rows"))
  d__law_rows : ∃ fd, FnP K "_law_rows" s__law_rows [] fd
  g__law_fulfils : mg "_law_fulfils" = some (.ref (He.ga K "_law_fulfils"))
  d__law_fulfils : ∃ fd, FnP K "_law_fulfils" s__law_fulfils [] fd
  g__law_all_labels : mg "_law_all_labels" = some (.ref (He.ga K "_law_all_labels"))
  d__law_all_labels : ∃ fd, FnP K "_law_all_labels" s__law_all_labels [] fd
  g__law_labels : mg "_law_labels" = some (.ref (He.ga K "_law_labels"))
  d__law_labels : ∃ fd, FnP K "_law_labels" s__law_labels [] fd
  g_law : mg "law" = some (.ref (He.ga K "law"))
  d_law : ∃ fd, FnP K "law" s_law [] fd
  g_PlaneError : mg "PlaneError" = some (.ref (He.ga K "PlaneError"))
  g_BadSelector : mg "BadSelector" = some (.ref (He.ga K "BadSelector"))
  g_BadLabels : mg "BadLabels" = some (.ref (He.ga K "BadLabels"))
  n_len : mg "len" = none
  n_int : mg "int" = none
  n_str : mg "str" = none
  n_list : mg "list" = none
  n_dict : mg "dict" = none
  n_range : mg "range" = none
  n_isinstance : mg "isinstance" = none
  n_all : mg "all" = none
  n_repr : mg "repr" = none
  c_SMALL : ∃ t, mg "SMALL" = some (.str "abcdefghijklmnopqrstuvwxyz" t)
  c_DIGITS : ∃ t, mg "DIGITS" = some (.str "0123456789" t)
  c_MOST_SIGNS : ∃ t, mg "MOST_SIGNS" = some (.int 10 t)
  c_MOST_LABELS : ∃ t, mg "MOST_LABELS" = some (.int 8 t)
  c_MOST_REQUIREMENTS : ∃ t, mg "MOST_REQUIREMENTS" = some (.int 8 t)
  c_MOST_LETTERS : ∃ t, mg "MOST_LETTERS" = some (.int 24 t)
theorem bi_is_user_name {K : PySem.W.Frag} {fd : FuncData} (F : FnP K "is_user_name" s_is_user_name [] fd) : Binds K fd ps_is_user_name [] := F.bindsN (fun _ _ _ _ _ _ us hl => match us, hl with | [_], _ => rfl)
theorem bi_is_label_value {K : PySem.W.Frag} {fd : FuncData} (F : FnP K "is_label_value" s_is_label_value [] fd) : Binds K fd ps_is_label_value [] := F.bindsN (fun _ _ _ _ _ _ us hl => match us, hl with | [_], _ => rfl)
theorem bi_is_labels {K : PySem.W.Frag} {fd : FuncData} (F : FnP K "is_labels" s_is_labels [] fd) : Binds K fd ps_is_labels [] := F.bindsN (fun _ _ _ _ _ _ us hl => match us, hl with | [_], _ => rfl)
theorem bi_requirement {K : PySem.W.Frag} {fd : FuncData} (F : FnP K "requirement" s_requirement [] fd) : Binds K fd ps_requirement [] := F.bindsN (fun _ _ _ _ _ _ us hl => match us, hl with | [_], _ => rfl)
theorem bi_rows_of {K : PySem.W.Frag} {fd : FuncData} (F : FnP K "rows_of" s_rows_of [] fd) : Binds K fd ps_rows_of [] := F.bindsN (fun _ _ _ _ _ _ us hl => match us, hl with | [_], _ => rfl)
theorem bi_is_selector {K : PySem.W.Frag} {fd : FuncData} (F : FnP K "is_selector" s_is_selector [] fd) : Binds K fd ps_is_selector [] := F.bindsN (fun _ _ _ _ _ _ us hl => match us, hl with | [_], _ => rfl)
theorem bi_requirements {K : PySem.W.Frag} {fd : FuncData} (F : FnP K "requirements" s_requirements [] fd) : Binds K fd ps_requirements [] := F.bindsN (fun _ _ _ _ _ _ us hl => match us, hl with | [_], _ => rfl)
theorem bi_is_fulfilled {K : PySem.W.Frag} {fd : FuncData} (F : FnP K "is_fulfilled" s_is_fulfilled [] fd) : Binds K fd ps_is_fulfilled [] := F.bindsN (fun _ _ _ _ _ _ us hl => match us, hl with | [_, _], _ => rfl)
theorem bi_matches {K : PySem.W.Frag} {fd : FuncData} (F : FnP K "matches" s_matches [] fd) : Binds K fd ps_matches [] := F.bindsN (fun _ _ _ _ _ _ us hl => match us, hl with | [_, _], _ => rfl)
theorem bi__law_cell_at {K : PySem.W.Frag} {fd : FuncData} (F : FnP K "_law_cell_at" s__law_cell_at [] fd) : Binds K fd ps__law_cell_at [] := F.bindsN (fun _ _ _ _ _ _ us hl => match us, hl with | [_, _], _ => rfl)
theorem bi__law_source {K : PySem.W.Frag} {fd : FuncData} (F : FnP K "_law_source" s__law_source [] fd) : Binds K fd ps__law_source [] := F.bindsN (fun _ _ _ _ _ _ us hl => match us, hl with | [_], _ => rfl)
theorem bi__law_draw {K : PySem.W.Frag} {fd : FuncData} (F : FnP K "_law_draw" s__law_draw [] fd) : Binds K fd ps__law_draw [] := F.bindsN (fun _ _ _ _ _ _ us hl => match us, hl with | [_, _], _ => rfl)
theorem bi__law_pick {K : PySem.W.Frag} {fd : FuncData} (F : FnP K "_law_pick" s__law_pick [] fd) : Binds K fd ps__law_pick [] := F.bindsN (fun _ _ _ _ _ _ us hl => match us, hl with | [_, _], _ => rfl)
theorem bi__law_value {K : PySem.W.Frag} {fd : FuncData} (F : FnP K "_law_value" s__law_value [] fd) : Binds K fd ps__law_value [] := F.bindsN (fun _ _ _ _ _ _ us hl => match us, hl with | [_], _ => rfl)
theorem bi__law_requirement {K : PySem.W.Frag} {fd : FuncData} (F : FnP K "_law_requirement" s__law_requirement [] fd) : Binds K fd ps__law_requirement [] := F.bindsN (fun _ _ _ _ _ _ us hl => match us, hl with | [_, _], _ => rfl)
theorem bi__law_text {K : PySem.W.Frag} {fd : FuncData} (F : FnP K "_law_text" s__law_text [] fd) : Binds K fd ps__law_text [] := F.bindsN (fun _ _ _ _ _ _ us hl => match us, hl with | [_], _ => rfl)
theorem bi__law_rows {K : PySem.W.Frag} {fd : FuncData} (F : FnP K "_law_rows" s__law_rows [] fd) : Binds K fd ps__law_rows [] := F.bindsN (fun _ _ _ _ _ _ us hl => match us, hl with | [_, _, _], _ => rfl)
theorem bi__law_fulfils {K : PySem.W.Frag} {fd : FuncData} (F : FnP K "_law_fulfils" s__law_fulfils [] fd) : Binds K fd ps__law_fulfils [] := F.bindsN (fun _ _ _ _ _ _ us hl => match us, hl with | [_, _], _ => rfl)
theorem bi__law_all_labels {K : PySem.W.Frag} {fd : FuncData} (F : FnP K "_law_all_labels" s__law_all_labels [] fd) : Binds K fd ps__law_all_labels [] := F.bindsN (fun _ _ _ _ _ _ us hl => match us, hl with | [_, _], _ => rfl)
theorem bi__law_labels {K : PySem.W.Frag} {fd : FuncData} (F : FnP K "_law_labels" s__law_labels [] fd) : Binds K fd ps__law_labels [] := F.bindsN (fun _ _ _ _ _ _ us hl => match us, hl with | [_, _], _ => rfl)
theorem bi_law {K : PySem.W.Frag} {fd : FuncData} (F : FnP K "law" s_law [] fd) : Binds K fd ps_law [] := F.bindsN (fun _ _ _ _ _ _ us hl => match us, hl with | [_], _ => rfl)

/-! ### the heap: what a def with a source of draws leaves -/
/-- all that was tracked, but what stands at a, is as it was -/
def Keep (a : Addr) (H H' : Hp) : Prop := ∀ b o, b ≠ a → H b = some o → H' b = some o
theorem Keep.refl (a : Addr) (H : Hp) : Keep a H H := fun _ _ _ h => h
theorem Keep.trans {a : Addr} {H H1 H2 : Hp} (x : Keep a H H1) (y : Keep a H1 H2) : Keep a H H2 := fun b o n h => y b o n (x b o n h)
theorem Keep.of {a : Addr} {H H1 : Hp} (x : Same H H1) : Keep a H H1 := fun b o _ h => x b o h
theorem Keep.at_ {a : Addr} {H : Hp} {u : HO} : Keep a H (upd H a u) := fun b o n h => by rw [upd_ne n]; exact h
theorem Same.new {H : Hp} {p : Addr} {u : HO} (n : H p = none) : Same H (upd H p u) := fun b o h => by rw [upd_ne (ne_of_none h n)]; exact h
theorem Keep.new {a : Addr} {H : Hp} {p : Addr} {u : HO} (n : H p = none) : Keep a H (upd H p u) := Keep.of (Same.new n)
theorem Keep.seqL {K : PySem.W.Frag} {a b : Addr} {H H1 : Hp} {xs : List V} (x : Keep a H H1) (n : b ≠ a) (h : SqL K H b xs) : SqL K H1 b xs := by
  rcases h with (h | ⟨o, h⟩) | h
  · exact .inl (.inl (x _ _ n h))
  · exact .inl (.inr ⟨o, x _ _ n h⟩)
  · exact .inr h
theorem Keep.seqT {K : PySem.W.Frag} {a b : Addr} {H H1 : Hp} {xs : List V} (x : Keep a H H1) (n : b ≠ a) (h : SqT K H b xs) : SqT K H1 b xs := by
  rcases h with (h | ⟨o, h⟩) | h
  · exact .inl (.inl (x _ _ n h))
  · exact .inl (.inr ⟨o, x _ _ n h⟩)
  · exact .inr h
/-- a flat value: None, a bool, an int, a text -/
def flat : V → Prop
  | .non => True
  | .bl _ => True
  | .int _ => True
  | .str _ => True
  | _ => False
def tyNm : V → Value
  | .non => .type "NoneType"
  | .bl _ => .type "bool"
  | .int _ => .type "int"
  | _ => .type "str"
theorem flat_ty {K : PySem.W.Frag} {H : Hp} {x : V} (h : flat x) : TyX K H x (tyNm x) := by
  cases x with
  | non => exact .base .non
  | bl b => exact .base (.bl b)
  | int i => exact .base (.int i)
  | str z => exact .base (.str z)
  | byt _ => exact h.elim
  | flt _ => exact h.elim
  | ref _ => exact h.elim
  | ty _ => exact h.elim
theorem small3 : (3 : Nat) ≤ sizeLine := by rw [sizeLine_eq]; decide
theorem smallN {n : Nat} (h : n ≤ 1000) : n ≤ sizeLine := Nat.le_of_lt (small1000 h)
theorem yes_ {σ : L2.St} {H : Hp} {Q : Bool → Hp → Prop} (h : Q true H) : tYes σ H Q := h
theorem get_take {α : Type} {xs : List α} {i : Nat} {x : α} (h : xs[i]? = some x) : xs.take (i + 1) = xs.take i ++ [x] := by
  rw [List.take_succ, h]; rfl
theorem mem_at {α : Type} {xs : List α} {i : Nat} {x : α} (h : xs[i]? = some x) : x ∈ xs := List.mem_of_getElem? h
theorem lt_at {α : Type} {xs : List α} {i : Nat} {x : α} (h : xs[i]? = some x) : i < xs.length := (List.getElem?_eq_some_iff.mp h).1
/-! ### flat values as data -/
def dOf : V → PyData
  | .bl b => .bool b
  | .int i => .int i
  | .str z => .str z
  | _ => .none
theorem dp_flat {K : PySem.W.Frag} {H : Hp} {x : V} (h : flat x) : Dp K H x (dOf x) := by
  cases x with
  | non => exact .non
  | bl b => exact .bl b
  | int i => exact .int i
  | str z => exact .str z
  | byt _ => exact h.elim
  | flt _ => exact h.elim
  | ref _ => exact h.elim
  | ty _ => exact h.elim
theorem dps_flat {K : PySem.W.Frag} {H : Hp} : ∀ {xs : List V}, (∀ x ∈ xs, flat x) → DpAll K H xs (xs.map dOf)
  | [], _ => .nil
  | x :: xs, h => .cons (dp_flat (h x (List.mem_cons_self ..))) (dps_flat fun y hy => h y (List.mem_cons_of_mem _ hy))
/-- a text of signs that there are -/
def okS : V → Prop
  | .str z => PyData.strOk z = true
  | _ => True
theorem lay_flat {x : V} (h : okS x) : (dOf x).canLay0 = true := by
  cases x with
  | str z => exact (show PyData.canLay0 (.str z) = true by simpa [PyData.canLay0, okS] using h)
  | _ => simp [dOf, PyData.canLay0]
theorem lays_flat : ∀ {xs : List V}, (∀ x ∈ xs, okS x) → PyData.canLayAll0 (xs.map dOf) = true
  | [], _ => by simp [PyData.canLayAll0]
  | x :: xs, h => by simp [PyData.canLayAll0, lay_flat (h x (List.mem_cons_self ..)), lays_flat (xs := xs) fun y hy => h y (List.mem_cons_of_mem _ hy)]
theorem dep_flat (x : V) : (dOf x).depth = 0 := by cases x <;> simp [dOf, PyData.depth]
theorem deps_flat : ∀ xs : List V, PyData.depthAll (xs.map dOf) = 0
  | [] => by simp [PyData.depthAll]
  | x :: xs => by simp [PyData.depthAll, dep_flat x, deps_flat xs]
theorem sh_flat {x : V} (h : okS x) : SeqAt.shaped (dOf x) = true := by simp [SeqAt.shaped, lay_flat h, dep_flat x]
theorem sh_list {xs : List V} (h : ∀ x ∈ xs, okS x) : SeqAt.shaped (.list (xs.map dOf)) = true := by simp [SeqAt.shaped, PyData.canLay0, PyData.depth, lays_flat h, deps_flat xs]
theorem sh_tup {xs : List V} (h : ∀ x ∈ xs, okS x) : SeqAt.shaped (.tuple (xs.map dOf)) = true := by simp [SeqAt.shaped, PyData.canLay0, PyData.depth, lays_flat h, deps_flat xs]
theorem eqv_nil (xs : List V) : PyData.eqv (.list (xs.map dOf)) (.list []) = xs.isEmpty := by
  cases xs <;> simp [PyData.eqv, PyData.eqvAll]
/-- len of a list or a tuple, within a comprehension -/
def rLenK (K : PySem.W.Frag) : List V → Hp → VK → Prop := fun xs H Q => ∃ p ys, xs = [V.ref p] ∧ (SqL K H p ys ∨ SqT K H p ys) ∧ Q (V.int ys.length) H
/-- dict(pairs), within a comprehension -/
def rDictP (K : PySem.W.Frag) : List V → Hp → VK → Prop := fun xs H Q => ∃ (a : Addr) (ps : List Addr) (kvs : List (Key × V)), xs = [.ref a] ∧ SqL K H a (ps.map V.ref) ∧ Paired (fun p kv => SqT K H p [kV kv.1, kv.2]) ps kvs ∧
  ∀ p, H p = none → Q (.ref p) (upd H p (.dK (mergeK [] kvs)))
theorem lay_same {H H' : Hp} {l : Addr} {u : HO} (e : upd H l u = H') (h : H l = none) : Same H H' := e ▸ Same.new h
theorem lay_at {H H' : Hp} {l : Addr} {u : HO} (e : upd H l u = H') : H' l = some u := e ▸ upd_same

/-! ### the source of draws: [digits, a number, a count] -/
def WellO (u : HO) (n : Nat) : Prop := ∃ x y : Int, u = .lst [.int x, .int y, .int (n : Int)] ∧ 0 ≤ y ∧ y < 2147483647
def WellAt (H : Hp) (a : Addr) (n : Nat) : Prop := ∃ u, H a = some u ∧ WellO u n
def sp__law_cell_at (K : PySem.W.Frag) : Sp := fun vs H Q _ => ∃ (a : Addr) (ns : List Int), vs = [.ref a, .int 0] ∧ SqL K H a (ns.map V.int) ∧ ∀ i : Int, Q (.int i) H
theorem ok__law_cell_at {P : Program} {w : World} {K : PySem.W.Frag} {mg : Str → Option Value} {base : Heap} {fd : FuncData} (T : Txt K mg) (F : FnP K "_law_cell_at" s__law_cell_at [] fd) : FnOk P w K mg base CX0 1 (He.ga K "_law_cell_at") fd ps__law_cell_at (sp__law_cell_at K) := by
  refine F.ok sc__law_cell_at (fun vs H Q E h => ?len) (fun cdv A outer s H vs Q E hr h => ?body)
  case len => obtain ⟨a, ns, rfl, hS, k⟩ := h; rfl
  case body =>
  obtain ⟨a, ns, rfl, hS, k⟩ := h
  have hu := hu_of hr
  refine ⟨_, PSs.nox (pss_cons (ps_if (pt_cmpR op_lt (pv 1) (pe_callB call_len_seq (by rfl) T.n_len (by decide +kernel) (pa_cons (pv 0) pa_nil)) (nomark _)) (pss_one (ps_ret (pe_ix ix_list (pv 0) (pv 1) (fun _ _ => rfl)))) pss_nil)
    (pss_one (ps_ret pe_int))), ?_⟩
  refine ⟨_, rfl, _, rfl, a, _, rfl, .inl hS, _, _, rfl, rfl, _, rfl, ?_⟩
  refine ite2 (fun hlt => ?_) (fun _ => k 0)
  cases ns with
  | nil => simp at hlt
  | cons i r => exact ⟨_, rfl, _, rfl, a, _, 0, .int i, rfl, rfl, hS, atI_nat (j := 0) rfl, k i⟩
def sp__law_source (K : PySem.W.Frag) : Sp := fun vs H Q _ => ∃ (i : Int), vs = [.int i] ∧ ∀ (a : Addr) (u : HO), H a = none → WellO u 0 → Q (.ref a) (upd H a u)
theorem mod_lt' (z : Int) {m : Int} (h : 0 < m) : 0 ≤ z % m ∧ z % m < m := ⟨Int.emod_nonneg _ (by omega), Int.emod_lt_of_pos _ h⟩
theorem ok__law_source {P : Program} {w : World} {K : PySem.W.Frag} {mg : Str → Option Value} {base : Heap} {fd : FuncData} (T : Txt K mg) (F : FnP K "_law_source" s__law_source [] fd) : FnOk P w K mg base CX0 1 (He.ga K "_law_source") fd ps__law_source (sp__law_source K) := by
  refine F.ok sc__law_source (fun vs H Q E h => ?len) (fun cdv A outer s H vs Q E hr h => ?body)
  case len => obtain ⟨i, rfl, k⟩ := h; rfl
  case body =>
  obtain ⟨i, rfl, k⟩ := h
  have hu := hu_of hr
  refine ⟨_, PSs.nox (pss_one (ps_ret (pe_lst (pa_cons (pe_op op_mul (pv 0) (pe_callTy call_int1 (by rfl) T.n_int (by decide +kernel) (pa_cons (pe_cmpR op_ge (pv 0) (pe_op op_pow pe_int pe_int) (nomark _)) pa_nil))) (pa_cons (pe_op op_mod (pe_callTy call_int1 (by rfl) T.n_int (by decide +kernel) (pa_cons (pv 0) pa_nil)) pe_int) (pa_cons pe_int pa_nil)))))), ?_⟩
  refine ⟨_, rfl, _, rfl, _, _, rfl, rfl, ⟨by decide, by decide, by decide⟩, _, _, rfl, rfl, .inr ⟨_, rfl, _, _, rfl, rfl, .inr ?_, _, rfl, .inl ⟨_, rfl, _, _, rfl, rfl, (by show (0 : Int) < 2147483647; decide), smallN (by show 3 ≤ 1000; decide), fun p hp => k p _ hp ⟨_, _, rfl, mod_lt' i (by decide)⟩⟩⟩⟩
  split <;> constructor <;> decide
/-- a number from 0 to m - 1; the source goes on -/
def sp__law_draw (K : PySem.W.Frag) : Sp := fun vs H Q _ => ∃ (a : Addr) (n : Nat) (m : Int), vs = [.ref a, .int m] ∧ WellAt H a n ∧ n < 1000000 ∧ 0 < m ∧ m ≤ 1000000000 ∧
  ∀ (r : Int) (u : HO) (n' : Nat), 0 ≤ r → r < m → n' ≤ n + 1 → WellO u n' → Q (.int r) (upd H a u)
theorem natAbs_lt64 {z : Int} (h1 : -(2 ^ 40) < z) (h2 : z < 2 ^ 40) : z.natAbs < 2 ^ 64 := by omega
theorem wdiv {i j : Int} (h : 0 < j) (h2 : j ≤ 2 ^ 32) : CDivW i j := wide_div (b := 40) h (by omega) (by decide) (by decide)
theorem ok__law_draw {P : Program} {w : World} {K : PySem.W.Frag} {mg : Str → Option Value} {base : Heap} {fd : FuncData} (T : Txt K mg) (F : FnP K "_law_draw" s__law_draw [] fd) : FnOk P w K mg base CX0 1 (He.ga K "_law_draw") fd ps__law_draw (sp__law_draw K) := by
  refine F.ok sc__law_draw (fun vs H Q E h => ?len) (fun cdv A outer s H vs Q E hr h => ?body)
  case len => obtain ⟨a, n, m, rfl, ⟨u, hu0, x, y, rfl, y0, y1⟩, hn, hm, hm2, k⟩ := h; rfl
  case body =>
  obtain ⟨a, n, m, rfl, ⟨u, hu0, x, y, rfl, y0, y1⟩, hn, hm, hm2, k⟩ := h
  have hu := hu_of hr
  refine ⟨_, PSs.nox (pss_cons (ps_if (pt_cmpR op_gt (pe_ix ix_list (pv 0) pe_int (fun _ _ => rfl)) pe_int (nomark _)) (pss_cons (ps_set (i := 2) sc__law_draw.nd rfl (Or.inl rfl) (pe_op op_mod (pe_callTy call_int1 (by rfl) T.n_int (by decide +kernel) (pa_cons (pe_ix ix_list (pv 0) pe_int (fun _ _ => rfl)) pa_nil)) (pv 1)))
      (pss_cons (ps_asg (pe_op op_fdivW (pe_ix ix_list (pv 0) pe_int (fun _ _ => rfl)) (pv 1)) (pg_sub (pv 0) pe_int set_list))
      (pss_one (ps_ret (pv 2))))) pss_nil)
    (pss_cons (ps_asg (pe_op op_add (pe_ix ix_list (pv 0) pe_int (fun _ _ => rfl)) pe_int) (pg_sub (pv 0) pe_int set_list))
    (pss_cons (ps_set (i := 3) sc__law_draw.nd rfl (Or.inl rfl) (pe_op op_mod (pe_callTy call_int1 (by rfl) T.n_int (by decide +kernel) (pa_cons (pe_op op_pow (pe_op op_add (pe_op op_add (pe_ix ix_list (pv 0) pe_int (fun _ _ => rfl)) (pe_op op_mul pe_int (pe_ix ix_list (pv 0) pe_int (fun _ _ => rfl)))) pe_int) pe_int) pa_nil)) pe_int))
    (pss_cons (ps_set (i := 3) sc__law_draw.nd rfl (Or.inl rfl) (pe_op op_mod (pe_callTy call_int1 (by rfl) T.n_int (by decide +kernel) (pa_cons (pe_op op_mul (pv 3) (pe_op op_add (pe_op op_add (pe_op op_fdivW (pv 3) pe_int) pe_int) (pe_ix ix_list (pv 0) pe_int (fun _ _ => rfl)))) pa_nil)) pe_int))
    (pss_one (ps_ret (pe_op op_mod (pe_callTy call_int1 (by rfl) T.n_int (by decide +kernel) (pa_cons (pe_op op_fdivW (pe_op op_mod (pe_callTy call_int1 (by rfl) T.n_int (by decide +kernel) (pa_cons (pe_op op_mul (pv 3) (pe_op op_add (pe_op op_fdivW (pv 3) pe_int) pe_int)) pa_nil)) pe_int) pe_int) pa_nil)) (pv 1)))))))), ?_⟩
  have hS : SqL K H a [.int x, .int y, .int (n : Int)] := SqL.of hu0
  refine ⟨_, rfl, a, _, 0, _, rfl, rfl, hS, rfl, _, _, rfl, rfl, _, rfl, ?_⟩
  refine ite2 (fun hx => ?_) (fun hx => ?_)
  · refine ⟨_, rfl, a, _, 0, _, rfl, rfl, hS, rfl, .inl ⟨_, rfl, _, rfl, _, _, rfl, rfl, hm, ?_⟩⟩
    refine ⟨_, rfl, a, _, 0, _, rfl, rfl, hS, rfl, _, rfl, _, _, rfl, rfl, wdiv hm (by omega), _, rfl, a, _, _, 0, rfl, rfl, hu0, rfl, _, rfl, ?_⟩
    exact k _ _ n (mod_lt' x hm).1 (mod_lt' x hm).2 (Nat.le_succ _) ⟨_, _, rfl, y0, y1⟩
  · refine ⟨_, rfl, a, _, 2, _, rfl, rfl, hS, rfl, _, _, rfl, rfl, _, rfl, a, _, _, 2, rfl, rfl, hu0, rfl, ?_⟩
    have hu1 : upd H a (.lst ([.int x, .int y, .int (n : Int)].set 2 (.int ((n : Int) + 1)))) a = some (.lst [.int x, .int y, .int ((n : Int) + 1)]) := upd_same
    have hS1 : SqL K (upd H a (.lst ([.int x, .int y, .int (n : Int)].set 2 (.int ((n : Int) + 1))))) a [.int x, .int y, .int ((n : Int) + 1)] := SqL.of hu1
    refine ⟨_, rfl, a, _, 1, _, rfl, rfl, hS1, rfl, _, rfl, a, _, 2, _, rfl, rfl, hS1, rfl, _, _, rfl, rfl, .inl ⟨by decide, by decide⟩, _, _, rfl, rfl, _, _, rfl, rfl, _, _, rfl, rfl, ⟨by decide, by decide, natAbs_lt64 (by omega) (by omega)⟩, .inl ⟨_, rfl, _, _, rfl, rfl, (by show (0 : Int) < 2147483629; decide), ?_⟩⟩
    have b3 := mod_lt' ((y + 7919 * ((n : Int) + 1) + 1) ^ (5 : Int).toNat) (m := 2147483629) (by decide)
    generalize (y + 7919 * ((n : Int) + 1) + 1) ^ (5 : Int).toNat % 2147483629 = e3 at b3 ⊢
    refine ⟨_, rfl, _, rfl, _, _, rfl, rfl, wdiv (by decide) (by decide), _, _, rfl, rfl, _, rfl, a, _, 2, _, rfl, rfl, hS1, rfl, _, _, rfl, rfl, _, _, rfl, rfl, .inl ⟨by omega, by omega⟩, .inl ⟨_, rfl, _, _, rfl, rfl, (by show (0 : Int) < 2147483587; decide), ?_⟩⟩
    have b4 := mod_lt' (e3 * (e3 / 1009 + 69621 + ((n : Int) + 1))) (m := 2147483587) (by decide)
    generalize e3 * (e3 / 1009 + 69621 + ((n : Int) + 1)) % 2147483587 = e4 at b4 ⊢
    refine ⟨_, rfl, _, rfl, _, _, rfl, rfl, wdiv (by decide) (by decide), _, _, rfl, rfl, _, _, rfl, rfl, .inl ⟨by omega, by omega⟩, .inl ⟨_, rfl, _, _, rfl, rfl, (by show (0 : Int) < 2147483579; decide), _, _, rfl, rfl, wdiv (by decide) (by decide), .inl ⟨_, rfl, _, rfl, _, _, rfl, rfl, hm, ?_⟩⟩⟩
    exact k _ _ (n + 1) (mod_lt' _ hm).1 (mod_lt' _ hm).2 (Nat.le_refl _) ⟨_, _, rfl, y0, y1⟩

/-! ### one of some values -/
theorem well_ne {H : Hp} {a b : Addr} {n : Nat} {o : HO} (h : WellAt H a n) (hb : H b = some o) (ho : ∀ xs, o = .lst xs → xs.length ≠ 3) : b ≠ a := by
  obtain ⟨u, hu, x, y, rfl, _⟩ := h
  exact ne_of hb hu fun z => ho _ z rfl
theorem well_ne3 {H : Hp} {a p : Addr} {n : Nat} (h : WellAt H a n) (hp : H p = none) : p ≠ a := by
  obtain ⟨u, hu, _⟩ := h
  exact fun z => by rw [z, hu] at hp; cases hp
theorem well_upd {H : Hp} {a : Addr} {n : Nat} {u : HO} (h : WellO u n) : WellAt (upd H a u) a n := ⟨u, upd_same, h⟩
theorem well_new {H : Hp} {a p : Addr} {n : Nat} {u : HO} (h : WellAt H a n) (hp : H p = none) : WellAt (upd H p u) a n := by
  obtain ⟨v, hv, w⟩ := h
  exact ⟨v, by rw [upd_ne (ne_of_none hv hp)]; exact hv, w⟩
def sp__law_pick (K : PySem.W.Frag) : Sp := fun vs H Q _ => ∃ (a b : Addr) (n : Nat) (ys : List V), vs = [.ref a, .ref b] ∧ WellAt H a n ∧ n < 1000000 ∧ H b = some (.lst ys) ∧ b ≠ a ∧ 0 < ys.length ∧ ys.length ≤ 1000 ∧
  ∀ (y : V) (u : HO) (n' : Nat), y ∈ ys → n' ≤ n + 1 → WellO u n' → Q y (upd H a u)
theorem ok__law_pick {P : Program} {w : World} {K : PySem.W.Frag} {mg : Str → Option Value} {base : Heap} {fd : FuncData} (T : Txt K mg) (F : FnP K "_law_pick" s__law_pick [] fd) : FnOk P w K mg base CX0 2 (He.ga K "_law_pick") fd ps__law_pick (sp__law_pick K) := by
  obtain ⟨fd__law_draw, F__law_draw⟩ := T.d__law_draw
  have G__law_draw := ok__law_draw (P := P) (w := w) (base := base) T F__law_draw
  have k__law_draw := F__law_draw.kp
  have b__law_draw := bi__law_draw F__law_draw
  refine F.ok sc__law_pick (fun vs H Q E h => ?len) (fun cdv A outer s H vs Q E hr h => ?body)
  case len => obtain ⟨a, b, n, ys, rfl, hw, hn, hb, hne, h0, h1, k⟩ := h; rfl
  case body =>
  obtain ⟨a, b, n, ys, rfl, hw, hn, hb, hne, h0, h1, k⟩ := h
  have hu := hu_of hr
  refine ⟨_, PSs.nox (pss_one (ps_ret (pe_ix ix_list (pv 1) (pe_call G__law_draw (hr.mono (by first | decide | omega)) rfl T.g__law_draw k__law_draw b__law_draw .nil pass0 (pa_cons (pv 0) (pa_cons (pe_callB call_len_seq (by rfl) T.n_len (by decide +kernel) (pa_cons (pv 1) pa_nil)) pa_nil))) (fun _ _ => rfl)))), ?_⟩
  refine ⟨_, rfl, _, rfl, _, rfl, b, ys, rfl, .inl (SqL.of hb), a, n, _, rfl, hw, hn, (by omega), (by omega), fun r u n' r0 r1 hn' hu' => ?_⟩
  have hb' : upd H a u b = some (.lst ys) := by rw [upd_ne hne]; exact hb
  obtain ⟨j, rfl⟩ := Int.eq_ofNat_of_zero_le r0
  have hj : j < ys.length := by omega
  have e : ys[j]? = some ys[j] := List.getElem?_eq_getElem hj
  exact ⟨b, ys, _, ys[j], rfl, rfl, SqL.of hb', atI_nat e, k _ u n' (List.getElem_mem hj) hn' hu'⟩

/-! ### defs that ask repr: they run where no repr is under way -/
structure FnG (P : Program) (w : World) (K : PySem.W.Frag) (mg : Str → Option Value) (base : Heap) (CX : CXT) (k : Nat) (f : Addr) (fd : FuncData) (ps : List Str) (sp : Sp) : Prop where
  len : ∀ vs H Q E, sp vs H Q E → vs.length = ps.length
  run : ∀ (A : Around) (outer : List Env) (s : Shared) (H : Hp) (args : Args) (us : List Value) (vs : List V) (Q : VK) (E : XK), Room k A → A.guards = some [] →
    Env0 P w K mg base A outer s H → BindsTo s fd args (ps.zip us) → Vals vs us → sp vs H Q E →
      codeAny (model P w) A (.call (.ref f) args) (CR CX outer P w H s Q E) s
section
variable {P : Program} {w : World} {K : PySem.W.Frag} {mg : Str → Option Value} {base : Heap} {CX : CXT} {k : Nat} {f : Addr} {fd : FuncData} {ps : List Str} {sp : Sp}
/-- more room does no harm -/
theorem FnG.mono {j : Nat} (F : FnG P w K mg base CX j f fd ps sp) (le : j ≤ k) : FnG P w K mg base CX k f fd ps sp where
  len := F.len
  run A outer s H args us vs Q E room := F.run A outer s H args us vs Q E (room.mono le)
/-- a def's body walked there: the body is asked at the def's own code value, whatever is known of it (Z) -/
theorem okAt {x qual : Str} {params : Arguments} {body : List Stmt} {scope : Scope} {dvs : List V} {kws : List (Str × V)} {N : List Str} {Z : Value → Prop} (F : FunD K x qual params body scope dvs kws f fd) (S : FnScope N ps scope)
    (known : ∀ {cdv : Value} {oc dV kV doc pm ct : Value} {an od : Option Addr} {osl : Array (Option Value)}, K.lookup f = some ⟨oc, od, .func (PySem.W.fnOf x qual params body scope dV kV doc pm an cdv ct), osl⟩ → PySem.W.codeIn K cdv qual = true → Z cdv)
    (len : ∀ vs H Q E, sp vs H Q E → vs.length = ps.length)
    (walk : ∀ (cdv : Value), Z cdv → ∀ (A : Around) (outer : List Env) (s : Shared) (H : Hp) (vs : List V) (Q : VK) (E : XK), Room k (A.deeper (envOfC qual scope s.heap.objs.size f cdv)) → A.guards = some [] → sp vs H Q E →
      ∃ t, PSs (cxOf CX P w K mg base N qual scope f cdv A outer s H E) body t ∧ t { nx := fun _ H' => Q .non H', rt := Q } (L2.start N vs) H) : FnG P w K mg base CX (k + 1) f fd ps sp := by
  obtain ⟨_, _, _, _, _, _, _, cdv, _, _, rfl, there, code, _⟩ := F.ex
  exact { len := len, run := fun A outer s H args us vs Q E room quiet env bind_ vals want => LamX.run_ofS there code S room env bind_ vals (len _ _ _ _ want) fun room1 => walk cdv (known there code) A outer s H vs Q E room1 quiet want }
theorem okG {x qual : Str} {params : Arguments} {body : List Stmt} {scope : Scope} {dvs : List V} {kws : List (Str × V)} {N : List Str} (F : FunD K x qual params body scope dvs kws f fd) (S : FnScope N ps scope) (len : ∀ vs H Q E, sp vs H Q E → vs.length = ps.length)
    (walk : ∀ (cdv : Value) (A : Around) (outer : List Env) (s : Shared) (H : Hp) (vs : List V) (Q : VK) (E : XK), Room k (A.deeper (envOfC qual scope s.heap.objs.size f cdv)) → A.guards = some [] → sp vs H Q E →
      ∃ t, PSs (cxOf CX P w K mg base N qual scope f cdv A outer s H E) body t ∧ t { nx := fun _ H' => Q .non H', rt := Q } (L2.start N vs) H) : FnG P w K mg base CX (k + 1) f fd ps sp :=
  okAt (Z := fun _ => True) F S (fun _ _ => trivial) len fun cdv _ => walk cdv
end
/-- what a run of it leaves is what its caller's reading asks -/
theorem FnG.told {X : Cx} {CX : CXT} {k : Nat} {f : Addr} {fd : FuncData} {ps : List Str} {sp : Sp} {dvs : List V} {ds us : List Value} {vs : List V} {E : XK} {pins : List (Addr × Obj)} {σ : L2.St} {H : Hp} {s : Shared} {Q : VK} (F : FnG X.prog X.w X.K X.mg X.base CX k f fd ps sp) (room : Room k X.A) (quiet : X.A.guards = some [])
    (bind_ : L2.Binds X.K fd ps ds) (dflt : Vals dvs ds) (pass : Passes CX X E) (I : Inv X pins σ H s) (vals : Vals vs us) (want : sp (vs ++ dvs) H Q E) : wpAny (model X.prog X.w) X.A (call (.ref f) us) (EP X pins σ Q) X.xe s :=
  have all := vals.append dflt
  wpAny_call <| codeAny_mono (F.run X.A X.stack s H ⟨us, []⟩ _ _ Q E room quiet I.env0 (bind_ s us I.kIn (all.length ▸ F.len _ _ _ _ want)) all want) fun r s' done => match r, done with
    | .error er, done => pass pins σ H s er s' I done
    | .ok (.ret u), done => I.after done
/-- its call -/
theorem pe_callG {X : Cx} {CX : CXT} {k : Nat} {f : Addr} {fd : FuncData} {ps : List Str} {sp : Sp} {dvs : List V} {ds : List Value} {E : XK} {x : Str} {p pos : Pos} {e : Expr} {es : List Expr} {t : TA}
    (F : FnG X.prog X.w X.K X.mg X.base CX k f fd ps sp) (hr : Room k X.A) (hG : X.A.guards = some []) (hg : Gl X x) (hm : X.mg x = some (.ref f)) (hk : PySem.W.keepIn X.K (.ref f) = true) (hb : L2.Binds X.K fd ps ds) (hd : Vals dvs ds)
    (hx : Passes CX X E) (ha : PA X (e :: es) t) (hdb : (x == ("__debug__" : Str)) = false := by decide) (he : starEach (e :: es) X.env = (false, eval e X.env) :: starEach es X.env := by rfl)
    (hpl : (backTo pos (starEach es X.env)).any (·.1) = false := by rfl) : PE X (.Call (.Name x p) (e :: es) [] pos) (tCall sp dvs E t) :=
  ⟨fun pins s σ H Q I want => wpAny_Call_Name_kw <| ld_glob I hg hm (PySem.W.callWith_K (h₀ := X.base) I.ok.mod.kin hk (thn (ha.run pos pins s σ H _ I want) fun us s1 ⟨vs, H1, I1, vals, want1⟩ => ⟨I1.kIn, F.told hr hG hb hd hx I1 vals want1⟩) he hpl) hdb⟩
/-! ### what repr shows: v is the data d, in every state that H tells -/
def Shw (K : PySem.W.Frag) (H : Hp) (v : V) (d : PyData) : Prop := ∀ (X : Cx) (pins : List (Addr × Obj)) (σ : L2.St) (s : Shared) (u : Value), X.K = K → Inv X pins σ H s → RelV v u → ∃ as, Reads s.heap u d as ∧ sysModules ∉ as
theorem shw_flat {K : PySem.W.Frag} {H : Hp} {v : V} (h : flat v) : Shw K H v (dOf v) := fun X pins σ s u _ I r => by
  cases v with
  | non => cases r; exact ⟨_, .none, by simp⟩
  | bl b => cases r; exact ⟨_, .bool b, by simp⟩
  | int i => obtain ⟨t, rfl⟩ := r; exact ⟨_, .int i t, by simp⟩
  | str z => obtain ⟨t, rfl⟩ := r; exact ⟨_, .str z t, by simp⟩
  | byt _ => exact h.elim
  | flt _ => exact h.elim
  | ref _ => exact h.elim
  | ty _ => exact h.elim
theorem shw_all {K : PySem.W.Frag} {H : Hp} {X : Cx} {pins : List (Addr × Obj)} {σ : L2.St} {s : Shared} (e : X.K = K) (I : Inv X pins σ H s) : ∀ {xs : List V} {ds : List PyData} {us : List Value}, Paired (Shw K H) xs ds → Vals xs us → ∃ as, ReadsAll s.heap us ds as ∧ sysModules ∉ as
  | _, _, _, .nil, .nil => ⟨_, .nil, by simp⟩
  | _, _, _, .cons h t, .cons r q => by
    obtain ⟨as, h1, h2⟩ := h X pins σ s _ e I r
    obtain ⟨bs, h3, h4⟩ := shw_all e I t q
    exact ⟨_, .cons h1 h3, by simp [h2, h4]⟩
theorem shw_tup {K : PySem.W.Frag} {H : Hp} {a : Addr} {xs : List V} {ds : List PyData} (h : SqT K H a xs) (hs : Paired (Shw K H) xs ds) : Shw K H (.ref a) (.tuple ds) := fun X pins σ s u e I r => by
  cases r
  subst e
  obtain ⟨its, rv, ⟨o, ho, hc, n, hd⟩, _⟩ := I.tuple h
  obtain ⟨as, h1, h2⟩ := shw_all rfl I hs rv
  exact ⟨_, .tuple ho hc hd h1, h2⟩
theorem shw_lst {K : PySem.W.Frag} {H : Hp} {a : Addr} {xs : List V} {ds : List PyData} (h : SqL K H a xs) (n1 : a ≠ sysModules) (hs : Paired (Shw K H) xs ds) : Shw K H (.ref a) (.list ds) := fun X pins σ s u e I r => by
  cases r
  subst e
  obtain ⟨its, rv, ⟨o, n, ho, hc, _, hd⟩, _⟩ := I.list h
  obtain ⟨as, h1, h2⟩ := shw_all rfl I hs rv
  exact ⟨_, .list ho hc hd h1, by simp [h2, Ne.symm n1]⟩
/-- the data of a key -/
def kD : Key → PyData
  | .inl i => .int i
  | .inr x => .str x
theorem pairs_read {P : Program} {w : World} {h : Heap} : ∀ {es : List DictEntry} {kvs : List (Key × Value)}, Pairs (mixKind P w) es kvs → ReadsAll h (es.map (·.key)) (kvs.map fun p => kD p.1) []
  | _, _, .nil => .nil
  | _, _, .cons (e := e) (kv := kv) hk _ t => by
    have q := pairs_read (h := h) t
    have hk' : keyIs kv.1 e.key = true := hk
    have r : Reads h e.key (kD kv.1) [] := by
      rcases keyIs_shape hk' with ⟨i, t, e1, e2⟩ | ⟨x, t, e1, e2⟩
      · rw [e1, e2]; exact .int i t
      · rw [e1, e2]; exact .str x t
    exact .cons r q
theorem pairs_vals {P : Program} {w : World} : ∀ {es : List DictEntry} {kvs : List (Key × Value)}, Pairs (mixKind P w) es kvs → es.map (·.val) = kvs.map (·.2)
  | _, _, .nil => rfl
  | _, _, .cons _ hv t => by rw [List.map_cons, List.map_cons, hv, pairs_vals t]
theorem kv_split : ∀ {kvs : List (Key × V)} {vs : List (Key × Value)}, KV kvs vs → kvs.map (·.1) = vs.map (·.1) ∧ Vals (kvs.map (·.2)) (vs.map (·.2))
  | _, _, .nil => ⟨rfl, .nil⟩
  | _, _, .cons h t => by
    obtain ⟨h1, h2⟩ := kv_split t
    exact ⟨by rw [List.map_cons, List.map_cons, h.1, h1], .cons h.2 h2⟩
theorem shw_dic {K : PySem.W.Frag} {H : Hp} {a : Addr} {kvs : List (Key × V)} {ps : List (PyData × PyData)} (h : H a = some (.dK kvs)) (h1 : ps.map (·.1) = kvs.map fun p => kD p.1) (hs : Paired (Shw K H) (kvs.map (·.2)) (ps.map (·.2))) : Shw K H (.ref a) (.dict ps) := fun X pins σ s u e I r => by
  cases r
  subst e
  obtain ⟨_, n1, vs, kv, o, es, ep, ho, hx, hd, _, pr, _⟩ := I.hok a _ h
  obtain ⟨k1, k2⟩ := kv_split kv
  have q1 := pairs_read (h := s.heap) pr
  have q2 := pairs_vals pr
  obtain ⟨as, r1, r2⟩ := shw_all rfl I hs k2
  have e1 : (vs.map fun p => kD p.1) = ps.map (·.1) := by
    rw [h1]
    have : (vs.map (·.1)).map kD = (kvs.map (·.1)).map kD := by rw [k1]
    rw [List.map_map, List.map_map] at this; exact this
  rw [e1] at q1
  rw [← q2] at r1
  refine ⟨_, .dict ho hx.1 hd q1 r1, ?_⟩
  have n1' : a ≠ sysModules := by simpa using n1
  simp [r2, Ne.symm n1']
/-- repr(v) -/
def rRepr (K : PySem.W.Frag) : List V → Hp → VK → Prop := fun xs H Q => ∃ (v : V) (d : PyData), xs = [v] ∧ Shw K H v d ∧ d.showable = true ∧ d.depth ≤ 60 ∧ d.shown.length ≤ sizeLine ∧ Q (.str d.shown) H
theorem call_repr {X : Cx} (hG : X.A.guards = some []) (hu : X.A.units + 64 < cLine) : CallR X (.builtin "repr") (rRepr X.K) := by
  intro pins s σ H xs us Q I r h
  obtain ⟨v, d, rfl, hs, h1, h2, h3, q⟩ := h
  obtain ⟨u, rfl, ru⟩ := vals1 r
  obtain ⟨as, hr, hn⟩ := hs X pins σ s u rfl I ru
  cases hr with
  | none => exact PySem.P.repr_of_none ⟨.str _, H, I.tok _, ⟨_, rfl⟩, q⟩
  | bool b => exact PySem.P.repr_of_bool ⟨.str _, H, I.tok _, ⟨_, rfl⟩, q⟩
  | int i t => exact PySem.P.repr_of_int (of_decide_eq_true h1) ⟨.str _, H, I.tok _, ⟨_, rfl⟩, q⟩
  | str x t => exact PySem.P.repr_of_str ⟨.str _, H, I.tok _, ⟨_, rfl⟩, q⟩ h3
  | list a b c e => exact repr_of_reads' (.list a b c e) h1 (fun _ => hn) hG (by omega) (fun _ _ z => z) (fun h' u tk k => ⟨.str _, H, I.kept (t' := tk) k, ⟨_, rfl⟩, q⟩) h3
  | tuple a b c e => exact repr_of_reads' (.tuple a b c e) h1 (fun _ => hn) hG (by omega) (fun _ _ z => z) (fun h' u tk k => ⟨.str _, H, I.kept (t' := tk) k, ⟨_, rfl⟩, q⟩) h3
  | dict a b c e f => exact repr_of_reads' (.dict a b c e f) h1 (fun _ => hn) hG (by omega) (fun _ _ z => z) (fun h' u tk k => ⟨.str _, H, I.kept (t' := tk) k, ⟨_, rfl⟩, q⟩) h3

/-! ### the law is called where no repr is under way: one end, with tables of lambdas (cs) or without -/
open Classical in
/-- what is told of the heap when the law starts: each table is empty, the script is a list of nums that nobody writes (where it is no written thing) -/
noncomputable def startHp (K : PySem.W.Frag) (cs : List (Addr × Addr)) (a : Addr) (vs : List Value) (ns : List Int) : Hp := fun b =>
  if b ∈ cs.map (·.2) then some (.tbl #[]) else if b = a ∧ K.lookup a = none then some (.frz { cls := .type "list", data := .seq vs.toArray } (.lst (ns.map V.int))) else none
section
variable {P : Program} {w : World} {K : PySem.W.Frag} {h : Heap} {cs : List (Addr × Addr)} {a : Addr} {vs : List Value} {ns : List Int}
abbrev scriptO (vs : List Value) : Obj := { cls := .type "list", data := .seq vs.toArray }
abbrev tableO : Obj := { cls := .none, data := .fields #[] }
theorem start_table {b : Addr} (tb : b ∈ cs.map (·.2)) : startHp K cs a vs ns b = some (.tbl #[]) := if_pos tb
theorem start_script (no : a ∉ cs.map (·.2)) (free : K.lookup a = none) : startHp K cs a vs ns a = some (.frz (scriptO vs) (.lst (ns.map V.int))) := (if_neg no).trans (if_pos ⟨rfl, free⟩)
/-- the two ways in which something is told of a place -/
theorem start_told {b : Addr} {u : HO} (told : startHp K cs a vs ns b = some u) : (b ∈ cs.map (·.2) ∧ u = .tbl #[]) ∨ ((b = a ∧ K.lookup a = none) ∧ u = .frz (scriptO vs) (.lst (ns.map V.int))) := by
  unfold startHp at told
  by_cases tb : b ∈ cs.map (·.2)
  · exact .inl ⟨tb, (Option.some.inj ((if_pos tb).symm.trans told)).symm⟩
  · rw [if_neg tb] at told
    by_cases sc : b = a ∧ K.lookup a = none
    · exact .inr ⟨sc, (Option.some.inj ((if_pos sc).symm.trans told)).symm⟩
    · rw [if_neg sc] at told; exact nomatch told
variable (tabs : ∀ b ∈ cs.map (·.2), h.get? b = some tableO) (script : h.get? a = some (scriptO vs))
include tabs script
theorem start_apart : a ∉ cs.map (·.2) := fun tb => nomatch script.symm.trans (tabs a tb)
/-- nothing is told of a place with an object of another shape -/
theorem start_other {b : Addr} {o : Obj} (there : h.get? b = some o) (n1 : o ≠ tableO) (n2 : o ≠ scriptO vs) : startHp K cs a vs ns b = none := by
  match e : startHp K cs a vs ns b with
  | none => rfl
  | some u =>
    rcases start_told e with ⟨tb, _⟩ | ⟨⟨rfl, _⟩, _⟩
    · exact absurd (Option.some.inj (there.symm.trans (tabs b tb))) n1
    · exact absurd (Option.some.inj (there.symm.trans script)) n2
theorem start_ok (nums : IntsAre vs ns) (few : ns.length ≤ sizeLine) : HOk P w (startHp K cs a vs ns) h := fun b u told => by
  rcases start_told told with ⟨tb, rfl⟩ | ⟨⟨rfl, _⟩, rfl⟩
  · exact tabs b tb
  · exact ⟨script, (List.length_map (f := V.int) (as := ns)).symm ▸ few, vs, _, vals_ints nums, script⟩
theorem start_seq (kin : K.In h) (nums : IntsAre vs ns) (few : ns.length ≤ sizeLine) : SqL K (startHp K cs a vs ns) a (ns.map V.int) := by
  match e : K.lookup a with
  | none => exact .inl (.inr ⟨_, start_script (start_apart tabs script) e⟩)
  | some o =>
    have same : o = scriptO vs := Option.some.inj ((kin a o e).symm.trans script)
    subst same
    exact .inr ⟨_, vs.toArray, _, e, rfl, rfl, rfl, by rw [List.size_toArray, nums.length]; exact few, by simpa using vals_ints nums⟩
/-- the rest of the heap, with what is told hidden -/
theorem start_ns {b : Addr} {m : Str → Option Value} (n : h.Ns b m) : (hidT h (startHp K cs a vs ns)).Ns b m :=
  have ⟨o, es, ep, there, dict, r⟩ := n
  ⟨o, es, ep, hidT_get there (start_other tabs script there (fun e => by rw [e] at dict; exact nomatch dict) (fun e => by rw [e] at dict; exact nomatch dict)), dict, r⟩
theorem start_in (kin : K.In h) (out : ∀ b ∈ cs.map (·.2), K.lookup b = none) : K.In (hidT h (startHp K cs a vs ns)) := fun b o look => by
  match e : startHp K cs a vs ns b with
  | none => exact hidT_get (kin b o look) e
  | some u =>
    rcases start_told e with ⟨tb, _⟩ | ⟨⟨rfl, free⟩, _⟩
    · exact nomatch look.symm.trans (out b tb)
    · exact nomatch look.symm.trans free
end
section
variable {P : Program} {w : World} {K : PySem.W.Frag} {mg mb : Str → Option Value} {h : Heap} {cs : List (Addr × Addr)} {a : Addr} {vs : List Value} {ns : List Int}
/-- the module of the builtins, as the head leaves it -/
abbrev BMain (mg : Str → Option Value) (h : Heap) : Prop := ∃ (bm : Addr) (ob : Obj), mg "__builtins__" = some (.ref bm) ∧ bm ≠ builtinsNs ∧ h.get? bm = some ob ∧ ob.cls = .type "module" ∧ ob.dict = some builtinsNs ∧ ob.data = .plain
/-- a place with a dict's payload, a place with a plain one and a table are three places -/
theorem ns_apart {b c : Addr} {m : Str → Option Value} {o : Obj} (n : h.Ns b m) (there : h.get? c = some o) (no : ∀ es ep, o.data ≠ .dict es ep) : b ≠ c := fun e => by
  have ⟨o', es, ep, at_, dict, _⟩ := n
  exact no _ _ (Option.some.inj ((e ▸ at_).symm.trans there) ▸ dict)
theorem start_tab (tabs : ∀ b ∈ cs.map (·.2), h.get? b = some tableO) (script : h.get? a = some (scriptO vs)) (glob : h.Ns mainGlobals mg) (bmain : BMain mg h) {p : Addr × Addr} (hp : p ∈ cs) (code : PySem.W.CodeHd h p.1 p.2) : LamX.TabB (hidT h (startHp K cs a vs ns)) mg p.1 p.2 := by
  have tp := tabs p.2 (List.mem_map_of_mem hp)
  have ⟨bm, ob, b1, b2, b3, b4, b5, b6⟩ := bmain
  refine ⟨?_, ⟨bm, ob, b1, b2, ?_, ?_, hidT_get b3 (start_other tabs script b3 (fun e => ?_) fun e => ?_), b4, b5, b6⟩, ns_apart glob tp fun _ _ z => nomatch z⟩
  · have ⟨o, us, file, tf, flags, tg, inF, text, tt, there, cls, rest⟩ := code
    exact ⟨o, us, file, tf, flags, tg, inF, text, tt, hidT_get there (start_other tabs script there (fun e => by rw [e] at cls; exact nomatch cls) fun e => by rw [e] at cls; exact absurd cls (show ¬ Value.type "list" = Value.type "code" by decide)), cls, rest⟩
  · exact (ns_apart glob b3 fun _ _ z => nomatch b6.symm.trans z).symm
  · intro e
    rw [e, tp] at b3
    cases b3
    cases b6
  · rw [e] at b6; exact nomatch b6
  · rw [e] at b6; exact nomatch b6
end
section
variable {P : Program} {w : World} {K : PySem.W.Frag} {mg mb : Str → Option Value} {CX : CXT} {k : Nat} {fa a : Addr} {cs : List (Addr × Addr)} {fd : FuncData} {x : Str} {sp : Sp} {s₁ : Shared} {vs : List Value} {ns : List Int}
/-- what the run leaves: a table may have grown, all else that was there is as it was -/
theorem left_old {H2 : Hp} {h' : Heap} (tabs : ∀ b ∈ cs.map (·.2), s₁.heap.get? b = some tableO) (script : s₁.heap.get? a = some (scriptO vs)) (code : ∀ p ∈ cs, PySem.W.CodeHd s₁.heap p.1 p.2)
    (un : Un [] [] (startHp K cs a vs ns) H2 s₁.heap h') (ok2 : HOk P w H2 h') : OldK s₁.heap h' := by
  have grown : ∀ b ∈ cs.map (·.2), ∃ more : Array Value, h'.get? b = some { cls := .none, data := .fields (#[] ++ more) } := fun b tb =>
    have ⟨more, told⟩ := un.tbls b #[] (start_table tb)
    ⟨more, ok2 b _ told⟩
  have same : ∀ b o, b ∉ cs.map (·.2) → s₁.heap.get? b = some o → h'.get? b = some o := fun b o no there => by
    match e : startHp K cs a vs ns b with
    | none => exact un.keep b o there e (fun z => nomatch z) (fun z => nomatch z)
    | some u =>
      rcases start_told e with ⟨tb, _⟩ | ⟨⟨rfl, _⟩, rfl⟩
      · exact absurd tb no
      · exact (ok2 b _ (un.frzs b _ _ e)).1.trans (script.symm.trans there)
  refine ⟨fun b o there => ?_, fun b o there => ?_⟩ <;> by_cases tb : b ∈ cs.map (·.2)
  · have ⟨more, now⟩ := grown b tb
    have ⟨p, hp, ep⟩ := List.mem_map.mp tb
    subst ep
    cases there.symm.trans (tabs _ tb)
    exact .inr (.inl ⟨((code p hp).tab (tabs _ tb)).isCodeTable, rfl, #[], more, rfl, now⟩)
  · exact .inl (same b o tb there)
  · have ⟨_, now⟩ := grown b tb; exact ⟨_, now⟩
  · exact ⟨o, same b o tb there⟩
/-- the call of the law: True, and nothing old is another but for tables that have grown -/
theorem law_end (kin : K.In s₁.heap) (glob : s₁.heap.Ns mainGlobals mg) (blt : s₁.heap.Ns builtinsNs mb) (boot : ∀ x : Str, x ≠ "__name__" → mb x = bootBuiltins x) (lim : s₁.heap.NoLimit) (gens : s₁.gens = #[]) (bmain : BMain mg s₁.heap)
    (tabs : ∀ b ∈ cs.map (·.2), s₁.heap.get? b = some tableO) (out : ∀ b ∈ cs.map (·.2), K.lookup b = none) (code : ∀ p ∈ cs, PySem.W.CodeHd s₁.heap p.1 p.2) (script : s₁.heap.get? a = some (scriptO vs)) (nums : IntsAre vs ns) (few : ns.length ≤ sizeLine) (room : Room k callerA)
    (F : ∀ base : Heap, K.In base → base.Ns mainGlobals mg → (∀ p ∈ cs, LamX.TabB base mg p.1 p.2) → FnG P w K mg base CX k fa fd [x] sp) (bind_ : ∀ (s : Shared) (u : Value), BindsTo s fd ⟨[u], []⟩ [(x, u)])
    (spec : ∀ H : Hp, (∀ b ∈ cs.map (·.2), H b = some (.tbl #[])) → SqL K H a (ns.map V.int) → sp [.ref a] H (fun v _ => v = .bl true) fun _ _ _ => False) (never : ∀ H e s', CX [] H s₁ (fun _ _ _ => False) e s' → False) :
    codeAny (model P w) callerA (.call (.ref fa) ⟨[.ref a], []⟩) (fun r s' => r = .ok (.ret (.bool true)) ∧ OldK s₁.heap s'.heap ∧ s'.os = s₁.os ∧ AllBare s'.gens) s₁ := by
  have ok := start_ok (P := P) (w := w) (K := K) tabs script nums few
  have kin' := start_in (ns := ns) tabs script kin out
  have glob' := start_ns (K := K) (ns := ns) tabs script glob
  have lim' : (hidT s₁.heap (startHp K cs a vs ns)).NoLimit := have ⟨mc, n, no⟩ := lim; ⟨mc, start_ns tabs script n, no⟩
  have env : Env0 P w K mg (hidT s₁.heap (startHp K cs a vs ns)) callerA [] s₁ (startHp K cs a vs ns) :=
    ⟨rfl, ⟨kin', glob', ⟨mb, start_ns tabs script blt, boot⟩, lim'⟩, fun _ _ => of_hidT, Nat.le_of_eq (hidT_size ..), trivial, (fun _ z => nomatch z), ok, .of_eq gens⟩
  have run_ := (F _ kin' glob' fun p hp => start_tab tabs script glob bmain hp (code p hp)).run callerA [] s₁ _ ⟨[.ref a], []⟩ [.ref a] [.ref a] _ _ room rfl env (bind_ s₁ (.ref a)) (.cons rfl .nil) (spec _ (fun _ => start_table) (start_seq tabs script kin nums few))
  refine codeAny_mono run_ fun r s2 done => ?_
  match r, done with
  | .error er, done => exact (never _ er s2 done).elim
  | .ok (.ret u), ⟨v, H2, os2, bare2, un, ok2, rel, ev⟩ =>
    cases (show v = .bl true from ev)
    cases (show u = Value.bool true from rel)
    exact ⟨rfl, left_old tabs script code un ok2, os2, bare2⟩
/-- the end of a law that asks repr and makes lambdas -/
theorem walk_ofTG {l : PySem.W.OpenLaw} {n : Nat} {q : Program} {loose : List Str} {XP : (Str → Option Value) → Heap → Prop} {YP : World → Heap → Prop} {d : DefRec} {CX : World → CXT}
    (hn : l.most = some n) (hn2 : n ≤ sizeLine) (hdf : d.params.defaults = []) (room : Room k callerA)
    (F : ∀ (w : World) (mg : Str → Option Value) (fa : Addr) (h : Heap), YP w h → h.Ns mainGlobals mg → mg d.name = some (.ref fa) →
      ∃ (K : PySem.W.Frag), K.In h ∧ ∃ (fd : FuncData) (cs : List (Addr × Addr)) (sp : Sp), (∀ p ∈ cs, h.get? p.2 = some tableO) ∧ (∀ p ∈ cs, K.lookup p.2 = none) ∧ (∀ p ∈ cs, PySem.W.CodeHd h p.1 p.2) ∧ (∀ (s : Shared) (u : Value), BindsTo s fd ⟨[u], []⟩ [(x, u)]) ∧
        (∀ (H : Hp) (a : Addr) (ns : List Int), ns.length ≤ n → (∀ z ∈ ns, Builtin.Int.intBits z ≤ 1048576) → (∀ p ∈ cs, H p.2 = some (.tbl #[])) → SqL K H a (ns.map V.int) → sp [.ref a] H (fun v _ => v = .bl true) fun _ _ _ => False) ∧
        ∀ base : Heap, K.In base → base.Ns mainGlobals mg → (∀ p ∈ cs, LamX.TabB base mg p.1 p.2) → FnG l.prog w K mg base (CX w) k fa fd [x] sp)
    (never : ∀ (w : World) (H : Hp) (s : Shared) (e : Value) (s' : Shared), CX w [] H s (fun _ _ _ => False) e s' → False) : PySem.W.WalkO q loose XP YP l.row.toRowW d [] (fun f vs => PySem.call f vs) :=
  have at2 : ∀ {Z : Addr → Prop} {cs : List (Addr × Addr)}, (∀ p ∈ cs, Z p.2) → ∀ b ∈ cs.map (·.2), Z b := fun all b tb => have ⟨p, hp, e⟩ := List.mem_map.mp tb; e ▸ all p hp
  Att.attach_callB hn hdf fun w s₀ s₁ mg mb fa o pm cd doc a vs ns G Y _ _ _ name script nums len bits gens =>
    have ⟨_, kin, _, _, _, tabs, out, code, bind_, spec, fn⟩ := F w mg fa _ Y G.T.g name
    law_end kin G.T.g G.T.b G.T.builtins G.T.nolimit gens G.T.bmain (at2 tabs) (at2 out) code script nums (Nat.le_trans len hn2) room fn bind_ (fun H told sq => spec H a ns len bits (fun p hp => told _ (List.mem_map_of_mem hp)) sq) fun H e s' => never w H s₁ e s'
/-- .. and of one that makes none -/
theorem walk_ofG {l : PySem.W.OpenLaw} {n : Nat} {q : Program} {loose : List Str} {XP : (Str → Option Value) → Heap → Prop} {YP : World → Heap → Prop} {d : DefRec} {CX : CXT}
    (hn : l.most = some n) (hn2 : n ≤ sizeLine) (hdf : d.params.defaults = []) (room : Room k callerA)
    (F : ∀ (w : World) (mg : Str → Option Value) (fa : Addr) (h : Heap), YP w h → h.Ns mainGlobals mg → mg d.name = some (.ref fa) → ∃ (K : PySem.W.Frag) (fd : FuncData) (sp : Sp), K.In h ∧ (∀ (s : Shared) (u : Value), BindsTo s fd ⟨[u], []⟩ [(x, u)]) ∧
      (∀ (H : Hp) (a : Addr) (ns : List Int), ns.length ≤ n → SqL K H a (ns.map V.int) → sp [.ref a] H (fun v _ => v = .bl true) fun _ _ _ => False) ∧ ∀ base : Heap, K.In base → base.Ns mainGlobals mg → FnG l.prog w K mg base CX k fa fd [x] sp)
    (never : ∀ (H : Hp) (s : Shared) (e : Value) (s' : Shared), CX [] H s (fun _ _ _ => False) e s' → False) : PySem.W.WalkO q loose XP YP l.row.toRowW d [] (fun f vs => PySem.call f vs) :=
  walk_ofTG (CX := fun _ => CX) hn hn2 hdf room (fun w mg fa h Y glob name => have ⟨K, fd, sp, kin, bind_, spec, fn⟩ := F w mg fa h Y glob name
    ⟨K, kin, fd, [], sp, (fun _ z => nomatch z), (fun _ z => nomatch z), (fun _ z => nomatch z), bind_, fun H a ns len _ _ sq => spec H a ns len sq, fun base kb nb _ => fn base kb nb⟩) fun _ => never
end

/-! ### names and label values -/
def tl (z : Str) : List Nat := z.cps.toList
def smallT : Str := "abcdefghijklmnopqrstuvwxyz"
def digitT : Str := "0123456789"
def inSm (c : Nat) : Bool := decide (c ∈ tl smallT)
def inSD (c : Nat) : Bool := decide (c ∈ tl (smallT ++ digitT))
def inSDH (c : Nat) : Bool := decide (c ∈ tl (smallT ++ digitT ++ "-"))
def firstSm : List Nat → Bool
  | c :: _ => inSm c
  | [] => false
/-- a user name; a label value -/
def userB (z : Str) : Bool := decide (1 ≤ z.length ∧ z.length ≤ 10) && (firstSm (tl z) && (tl z).all inSD)
def lvalB (z : Str) : Bool := decide (z.length ≤ 24) && (tl z).all inSDH
theorem len_tl (z : Str) : z.length = (tl z).length := by
  unfold tl; rw [Array.length_toList]; rfl
theorem kit_str {K : PySem.W.Frag} : PySem.W.kitOne K (.type "str") (.type "str") = some true := kit_ty (show kitB "str" "str" = some true by decide +kernel)
def sp_is_user_name (K : PySem.W.Frag) : Sp := fun vs H Q _ => ∃ (z : Str), vs = [.str z] ∧ z.length ≤ 100000 ∧ ∀ H', Same H H' → Q (.bl (userB z)) H'
theorem small5 {n : Nat} (h : n ≤ 100000) : n ≤ sizeLine := by rw [sizeLine_eq]; omega
theorem small5' {n : Nat} (h : n ≤ 100000) : n < sizeLine := by rw [sizeLine_eq]; omega
/-- a list of bools made sign by sign -/
theorem take_at {z : Str} {i : Nat} {c : Nat} (h : z.cps[i]? = some c) : (tl z)[i]? = some c := by
  unfold tl; rw [Array.getElem?_toList]; exact h
theorem size_tl (z : Str) : z.cps.size = (tl z).length := by unfold tl; rw [Array.length_toList]
theorem ok_is_user_name {P : Program} {w : World} {K : PySem.W.Frag} {mg : Str → Option Value} {base : Heap} {fd : FuncData} (T : Txt K mg) (F : FnP K "is_user_name" s_is_user_name [] fd) : FnOk P w K mg base CX0 1 (He.ga K "is_user_name") fd ps_is_user_name (sp_is_user_name K) := by
  obtain ⟨t_SMALL, h_SMALL⟩ := T.c_SMALL
  obtain ⟨t_DIGITS, h_DIGITS⟩ := T.c_DIGITS
  obtain ⟨t_MOST_SIGNS, h_MOST_SIGNS⟩ := T.c_MOST_SIGNS
  refine F.ok sc_is_user_name (fun vs H Q E h => ?len) (fun cdv A outer s H vs Q E hr h => ?body)
  case len => obtain ⟨z, rfl, hz, k⟩ := h; rfl
  case body =>
  obtain ⟨z, rfl, hz, k⟩ := h
  have hu := hu_of hr
  refine ⟨_, PSs.nox (pss_cons (ps_if (PW.pt (pw_or (pt_not (pt_val (pe_callB call_isi (by rfl) T.n_isinstance (by decide +kernel) (pa_cons (pv 0) (pa_cons (pe_bltn (v := .ty "str") rfl T.n_str (by decide +kernel) rfl) pa_nil))))) (pw_or (pt_not (pt_chain op_le op_le pe_int (pe_callB call_len_str (by rfl) T.n_len (by decide +kernel) (pa_cons (pv 0) pa_nil)) (pe_glob (v := .int 10) rfl h_MOST_SIGNS ⟨_, rfl⟩))) (pw_or1 (pt_cmpR op_notIn_sign (pe_ix ix_str (pv 0) pe_int (fun _ _ => rfl)) (pe_glob (v := .str "abcdefghijklmnopqrstuvwxyz") rfl h_SMALL ⟨_, rfl⟩) (by rfl)))))) (pss_one (ps_ret pe_bl)) pss_nil)
    (pss_one (ps_ret (pe_callB (cr_all rfl) (by rfl) T.n_all (by decide +kernel) (pa_cons (pe_lc (own := [("sign", 1)]) rfl sc_is_user_name.nd (pi_str (pv 0)) (blkOk_by (own := [("sign", 1)]) (N := N_is_user_name) (sc := defScope s_is_user_name) (by decide +kernel)) (fun _ _ _ _ _ => (pg_name (i := 1) sc_is_user_name.nd rfl (Or.inl rfl))) (fun _ _ _ _ _ => pts_nil) (fun _ _ _ _ _ => (pe_cmpR op_in_sign (pv 1) (pe_op op_add_str (pe_glob (v := .str "abcdefghijklmnopqrstuvwxyz") rfl h_SMALL ⟨_, rfl⟩) (pe_glob (v := .str "0123456789") rfl h_DIGITS ⟨_, rfl⟩)) (by rfl)))) pa_nil))))), ?_⟩
  have bad : userB z = false → Q (.bl false) H := fun e => by have := k H (Same.refl H); rw [e] at this; exact this
  refine ⟨_, rfl, .str z, .ty "str", _, _, _, rfl, .ty "str", .base (.str z), kit_str, _, rfl, ?_⟩
  refine iteF ⟨_, rfl, z, rfl, small5 hz, _, _, rfl, rfl, _, rfl, ?_⟩
  by_cases h1 : (1 : Int) ≤ (z.length : Int)
  · rw [decide_eq_true h1]
    refine iteT ⟨_, _, rfl, rfl, _, rfl, ?_⟩
    by_cases h2 : (z.length : Int) ≤ 10
    · rw [decide_eq_true h2]
      refine iteF ?_
      obtain ⟨c, cs, ec⟩ : ∃ c cs, tl z = c :: cs := by
        cases e : tl z with
        | nil => rw [len_tl, e] at h1; exact absurd h1 (by decide)
        | cons c cs => exact ⟨c, cs, rfl⟩
      have e0 : (tl z)[0]? = some c := by rw [ec]; rfl
      refine ⟨_, rfl, z, 0, c, rfl, rfl, small5 hz, atI_nat (j := 0) e0, ⟨_, _, rfl, rfl, _, rfl, ?_⟩⟩
      by_cases hc : c ∈ tl smallT
      · have hc2 : decide (c ∈ (Str.ofString "abcdefghijklmnopqrstuvwxyz").cps.toList) = true := decide_eq_true hc
        rw [hc2]
        refine iteF ?_
        refine ⟨_, rfl, z, rfl, fun D hD => ?_⟩
        refine lc_it walk_str (fun i H' => Same H H' ∧ H' D = some (.lst (((tl z).take i).map fun c => V.bl (inSD c)))) ⟨Same.new hD, upd_same⟩ (fun _ _ _ _ => True.intro) ?_ ?_
        · rintro i x H1 H2 hi ⟨sm, gD⟩ ⟨rfl, c', hc', rfl⟩
          refine ⟨rfl, yes_ ?_⟩
          refine iteT ?_
          refine ⟨_, rfl, _, _, rfl, rfl, (by decide), _, _, rfl, rfl, ?_⟩
          refine ⟨_, gD, small5' (by rw [List.length_map, List.length_take]; rw [len_tl] at hz; omega), fun b o hb => ?_, ?_⟩
          · rw [upd_ne (ne_of_none hb hD)]; exact sm b o hb
          · rw [upd_same, get_take (take_at hc'), List.map_append]; rfl
        · rintro H' ⟨sm, gD⟩
          rw [size_tl, List.take_length] at gD
          have gD2 : H' D = some (.lst (((tl z).map inSD).map V.bl)) := by rw [gD, List.map_map]; rfl
          refine ⟨D, (tl z).map inSD, rfl, SqL.of gD2, ?_⟩
          have := k H' sm
          have e : userB z = ((tl z).map inSD).all id := by
            unfold userB
            rw [decide_eq_true (show 1 ≤ z.length ∧ z.length ≤ 10 by omega)]
            have : firstSm (tl z) = true := by rw [ec]; exact decide_eq_true hc
            rw [this]
            simp [List.all_map]
          rw [e] at this
          exact this
      · have hc2 : decide (c ∈ (Str.ofString "abcdefghijklmnopqrstuvwxyz").cps.toList) = false := decide_eq_false hc
        rw [hc2]
        refine iteT (bad ?_)
        unfold userB
        have : firstSm (tl z) = false := by rw [ec]; exact decide_eq_false hc
        rw [this]; simp
    · rw [decide_eq_false h2]
      refine iteT (iteT (bad ?_))
      unfold userB
      rw [decide_eq_false (show ¬ (1 ≤ z.length ∧ z.length ≤ 10) by omega)]; rfl
  · rw [decide_eq_false h1]
    refine iteF ⟨_, rfl, iteT (iteT (bad ?_))⟩
    unfold userB
    rw [decide_eq_false (show ¬ (1 ≤ z.length ∧ z.length ≤ 10) by omega)]; rfl
def sp_is_label_value (K : PySem.W.Frag) : Sp := fun vs H Q _ => ∃ (z : Str), vs = [.str z] ∧ z.length ≤ 100000 ∧ ∀ H', Same H H' → Q (.bl (lvalB z)) H'
theorem ok_is_label_value {P : Program} {w : World} {K : PySem.W.Frag} {mg : Str → Option Value} {base : Heap} {fd : FuncData} (T : Txt K mg) (F : FnP K "is_label_value" s_is_label_value [] fd) : FnOk P w K mg base CX0 1 (He.ga K "is_label_value") fd ps_is_label_value (sp_is_label_value K) := by
  obtain ⟨t_SMALL, h_SMALL⟩ := T.c_SMALL
  obtain ⟨t_DIGITS, h_DIGITS⟩ := T.c_DIGITS
  obtain ⟨t_MOST_LETTERS, h_MOST_LETTERS⟩ := T.c_MOST_LETTERS
  refine F.ok sc_is_label_value (fun vs H Q E h => ?len) (fun cdv A outer s H vs Q E hr h => ?body)
  case len => obtain ⟨z, rfl, hz, k⟩ := h; rfl
  case body =>
  obtain ⟨z, rfl, hz, k⟩ := h
  have hu := hu_of hr
  refine ⟨_, PSs.nox (pss_cons (ps_if (PW.pt (pw_or (pt_not (pt_val (pe_callB call_isi (by rfl) T.n_isinstance (by decide +kernel) (pa_cons (pv 0) (pa_cons (pe_bltn (v := .ty "str") rfl T.n_str (by decide +kernel) rfl) pa_nil))))) (pw_or1 (pt_cmpR op_gt (pe_callB call_len_str (by rfl) T.n_len (by decide +kernel) (pa_cons (pv 0) pa_nil)) (pe_glob (v := .int 24) rfl h_MOST_LETTERS ⟨_, rfl⟩) (nomark _))))) (pss_one (ps_ret pe_bl)) pss_nil)
    (pss_one (ps_ret (pe_callB (cr_all rfl) (by rfl) T.n_all (by decide +kernel) (pa_cons (pe_lc (own := [("sign", 1)]) rfl sc_is_label_value.nd (pi_str (pv 0)) (blkOk_by (own := [("sign", 1)]) (N := N_is_label_value) (sc := defScope s_is_label_value) (by decide +kernel)) (fun _ _ _ _ _ => (pg_name (i := 1) sc_is_label_value.nd rfl (Or.inl rfl))) (fun _ _ _ _ _ => pts_nil) (fun _ _ _ _ _ => (pe_cmpR op_in_sign (pv 1) (pe_op op_add_str (pe_op op_add_str (pe_glob (v := .str "abcdefghijklmnopqrstuvwxyz") rfl h_SMALL ⟨_, rfl⟩) (pe_glob (v := .str "0123456789") rfl h_DIGITS ⟨_, rfl⟩)) pe_str) (by rfl)))) pa_nil))))), ?_⟩
  refine ⟨_, rfl, .str z, .ty "str", _, _, _, rfl, .ty "str", .base (.str z), kit_str, _, rfl, ?_⟩
  refine iteF ⟨_, rfl, z, rfl, small5 hz, _, _, rfl, rfl, _, rfl, ?_⟩
  by_cases h2 : (24 : Int) < (z.length : Int)
  · rw [decide_eq_true h2]
    refine iteT ?_
    have := k H (Same.refl H)
    have e : lvalB z = false := by
      unfold lvalB
      rw [decide_eq_false (show ¬ z.length ≤ 24 by omega)]; rfl
    rw [e] at this
    exact this
  · rw [decide_eq_false h2]
    refine iteF ?_
    refine ⟨_, rfl, z, rfl, fun D hD => ?_⟩
    refine lc_it walk_str (fun i H' => Same H H' ∧ H' D = some (.lst (((tl z).take i).map fun c => V.bl (inSDH c)))) ⟨Same.new hD, upd_same⟩ (fun _ _ _ _ => True.intro) ?_ ?_
    · rintro i x H1 H2 hi ⟨sm, gD⟩ ⟨rfl, c', hc', rfl⟩
      refine ⟨rfl, yes_ ?_⟩
      refine iteT ?_
      refine ⟨_, rfl, _, _, rfl, rfl, (by decide), _, _, rfl, rfl, (by decide), _, _, rfl, rfl, ?_⟩
      refine ⟨_, gD, small5' (by rw [List.length_map, List.length_take]; rw [len_tl] at hz; omega), fun b o hb => ?_, ?_⟩
      · rw [upd_ne (ne_of_none hb hD)]; exact sm b o hb
      · rw [upd_same, get_take (take_at hc'), List.map_append]; rfl
    · rintro H' ⟨sm, gD⟩
      rw [size_tl, List.take_length] at gD
      have gD2 : H' D = some (.lst (((tl z).map inSDH).map V.bl)) := by rw [gD, List.map_map]; rfl
      refine ⟨D, (tl z).map inSDH, rfl, SqL.of gD2, ?_⟩
      have := k H' sm
      have e : lvalB z = ((tl z).map inSDH).all id := by
        unfold lvalB
        rw [decide_eq_true (show z.length ≤ 24 by omega)]
        simp [List.all_map]
      rw [e] at this
      exact this
/-! ### labels -/
abbrev Lab := List (Key × V)
/-- the table of labels kvs, user names to label values -/
def LabOk (kvs : List (Str × Str)) : Prop := kvs.length ≤ 8 ∧ (∀ p ∈ kvs, userB p.1 = true ∧ lvalB p.2 = true ∧ p.1.length ≤ 100 ∧ p.2.length ≤ 100) ∧ (kvs.map (·.1)).Nodup
def labD (kvs : List (Str × Str)) : List (Key × V) := kvs.map fun p => (Sum.inr p.1, V.str p.2)
def sp_is_labels (K : PySem.W.Frag) : Sp := fun vs H Q _ => ∃ (d : Addr) (kvs : List (Str × Str)), vs = [.ref d] ∧ H d = some (.dK (labD kvs)) ∧ LabOk kvs ∧ ∀ H', Same H H' → Q (.bl true) H'
theorem kit_dict {K : PySem.W.Frag} : PySem.W.kitOne K (.type "dict") (.type "dict") = some true := kit_ty (show kitB "dict" "dict" = some true by decide +kernel)
theorem all_true : ∀ n : Nat, (List.replicate n true).all id = true
  | 0 => rfl
  | n + 1 => by rw [List.replicate_succ, List.all_cons, all_true n]; rfl
theorem ok_is_labels {P : Program} {w : World} {K : PySem.W.Frag} {mg : Str → Option Value} {base : Heap} {fd : FuncData} (T : Txt K mg) (F : FnP K "is_labels" s_is_labels [] fd) : FnOk P w K mg base CX0 2 (He.ga K "is_labels") fd ps_is_labels (sp_is_labels K) := by
  obtain ⟨fd_is_user_name, F_is_user_name⟩ := T.d_is_user_name
  have G_is_user_name := ok_is_user_name (P := P) (w := w) (base := base) T F_is_user_name
  have k_is_user_name := F_is_user_name.kp
  have b_is_user_name := bi_is_user_name F_is_user_name
  obtain ⟨fd_is_label_value, F_is_label_value⟩ := T.d_is_label_value
  have G_is_label_value := ok_is_label_value (P := P) (w := w) (base := base) T F_is_label_value
  have k_is_label_value := F_is_label_value.kp
  have b_is_label_value := bi_is_label_value F_is_label_value
  obtain ⟨t_MOST_LABELS, h_MOST_LABELS⟩ := T.c_MOST_LABELS
  refine F.ok sc_is_labels (fun vs H Q E h => ?len) (fun cdv A outer s H vs Q E hr h => ?body)
  case len => obtain ⟨d, kvs, rfl, hd, ok, k⟩ := h; rfl
  case body =>
  obtain ⟨d, kvs, rfl, hd, ok, k⟩ := h
  have hu := hu_of hr
  refine ⟨_, PSs.nox (pss_cons (ps_if (PW.pt (pw_or (pt_not (pt_val (pe_callB call_isi (by rfl) T.n_isinstance (by decide +kernel) (pa_cons (pv 0) (pa_cons (pe_bltn (v := .ty "dict") rfl T.n_dict (by decide +kernel) rfl) pa_nil))))) (pw_or1 (pt_cmpR op_gt (pe_callB call_lenD (by rfl) T.n_len (by decide +kernel) (pa_cons (pv 0) pa_nil)) (pe_glob (v := .int 8) rfl h_MOST_LABELS ⟨_, rfl⟩) (nomark _))))) (pss_one (ps_ret pe_bl)) pss_nil)
    (pss_one (ps_ret (pe_callB (cr_all rfl) (by rfl) T.n_all (by decide +kernel) (pa_cons (pe_lock (pe_lc (own := [("name", 1), ("text", 2)]) (g := gTup K 2 (gCons (gName 1) (gCons (gName 2) gNil))) rfl sc_is_labels.nd (pi_items (pv 0)) (blkOk_by (own := [("name", 1), ("text", 2)]) (N := N_is_labels) (sc := defScope s_is_labels) (by decide +kernel)) (fun _ _ _ _ _ => (pg_tup rfl (pgs_cons (pg_name (i := 1) sc_is_labels.nd rfl (Or.inl rfl) (Or.inr rfl)) (pgs_cons (pg_name (i := 2) sc_is_labels.nd rfl (Or.inl rfl) (Or.inr rfl)) pgs_nil)))) (fun _ _ _ _ _ => pts_nil) (fun _ _ _ _ _ => (pe_and (pe_call G_is_user_name (hr.mono (by first | decide | omega)) rfl T.g_is_user_name k_is_user_name b_is_user_name .nil pass0 (pa_cons (pv 1) pa_nil)) (pe_one (pe_call G_is_label_value (hr.mono (by first | decide | omega)) rfl T.g_is_label_value k_is_label_value b_is_label_value .nil pass0 (pa_cons (pv 2) pa_nil))))))) pa_nil))))), ?_⟩
  have hlen : (labD kvs).length = kvs.length := List.length_map _
  refine ⟨_, rfl, _, .ty "dict", _, _, _, rfl, .ty "dict", .base (.dK hd), kit_dict, _, rfl, ?_⟩
  refine iteF ⟨_, rfl, d, _, rfl, hd, _, _, rfl, rfl, _, rfl, ?_⟩
  rw [decide_eq_false (show ¬ (8 : Int) < ((labD kvs).length : Int) by have := ok.1; omega)]
  refine iteF ?_
  refine ⟨d, _, hd, True.intro, fun od => ?_⟩
  have hdF : (upd H d (.frz od (.dK (labD kvs)))) d = _ := upd_same
  refine ⟨_, rfl, d, od, labD kvs, rfl, hdF, fun D hD => ?_⟩
  have nD : D ≠ d := fun z => by rw [z, hdF] at hD; cases hD
  refine lc_it walk_items (fun i H' => Same (upd H d (.frz od (.dK (labD kvs)))) H' ∧ H' D = some (.lst (List.replicate i (V.bl true)))) ⟨Same.new hD, upd_same⟩ (fun i H' _ p => p.1 _ _ hdF) ?_ ?_
  · rintro i x H1 H2 hi ⟨sm, gD⟩ ⟨T, x1, y1, rfl, hT, rfl, h1, h2⟩
    obtain ⟨p, hp⟩ : ∃ p, kvs[i]? = some p := ⟨_, List.getElem?_eq_getElem (by omega)⟩
    have hp2 : (labD kvs)[i]? = some (Sum.inr p.1, V.str p.2) := by unfold labD; rw [List.getElem?_map, hp]; rfl
    dsimp only at h1 h2
    rw [hp2] at h1 h2
    cases h1
    cases h2
    obtain ⟨u1, u2, u3, u4⟩ := ok.2.1 p (mem_at hp)
    have gD1 : upd H1 T (.tup [kV (Sum.inr p.1), V.str p.2]) D = _ := Same.new hT _ _ gD
    refine ⟨T, _, rfl, SqT.of upd_same, rfl, _, _, rfl, _, _, rfl, rfl, rfl, yes_ ?_⟩
    refine iteT ?_
    refine ⟨_, rfl, p.1, rfl, by omega, fun H3 S3 => ⟨_, rfl, ?_⟩⟩
    rw [u1]
    refine iteT ⟨_, rfl, p.2, rfl, by omega, fun H4 S4 => ?_⟩
    rw [u2]
    have S14 := (Same.new hT).trans (S3.trans S4)
    refine ⟨_, S14 _ _ gD, small1000 (by rw [List.length_replicate]; have := ok.1; omega), fun b o hb => ?_, ?_⟩
    · rw [upd_ne (ne_of_none hb hD)]; exact S14 _ _ (sm b o hb)
    · rw [upd_same, List.replicate_succ']
  · rintro H' ⟨sm, gD⟩
    refine ⟨sm _ _ hdF, ?_⟩
    have gD2 : upd H' d (.dK (labD kvs)) D = some (.lst ((List.replicate (labD kvs).length true).map V.bl)) := by rw [upd_ne nD, gD, List.map_replicate]
    refine ⟨D, List.replicate (labD kvs).length true, rfl, SqL.of gD2, ?_⟩
    rw [all_true]
    refine k _ fun b o hb => ?_
    by_cases e : b = d
    · subst e; rw [hd] at hb; cases hb; exact upd_same
    · rw [upd_ne e]; exact sm _ _ (by rw [upd_ne e]; exact hb)

/-! ### rows and their texts -/
inductive Verb | is | not | there | missing
  deriving DecidableEq
def vT : Verb → Str
  | .is => "is"
  | .not => "not"
  | .there => "there"
  | .missing => "missing"
structure Row where
  nm : Str
  vb : Verb
  vl : Str
def rowV (r : Row) : List V := [.str r.nm, .str (vT r.vb), .str r.vl]
def preT : Verb → Str
  | .missing => "!"
  | _ => ""
def markT : Verb → Str
  | .is => "="
  | .not => "!="
  | _ => ""
def rowT (r : Row) : Str := preT r.vb ++ r.nm ++ markT r.vb ++ r.vl
def names4 : List Str := ["app", "tier", "a", "n012345678"]
def vals8 : List Str := ["", "web", "db", "web", "a-1", "0", "-", "xxxxxxxxxxxxxxxxxxxxxxxx"]
def allRows : List Row := names4.flatMap fun n => (vals8.flatMap fun v => [⟨n, .is, v⟩, ⟨n, .not, v⟩]) ++ [⟨n, .there, ""⟩, ⟨n, .missing, ""⟩]
def hasT (x z : Str) : Bool := !(Builtin.Str.occurrences z x 0 z.length 1).isEmpty
def rowFact (r : Row) : Bool :=
  decide ((rowT r).length ≤ 50) && (decide (r.nm.length ≤ 50) && (decide (r.vl.length ≤ 50) && (userB r.nm && (lvalB r.vl && (!decide ((44 : Nat) ∈ tl (rowT r)) && (decide (rowT r ≠ "") &&
  (match r.vb with
  | .missing => decide (cutS (rowT r) none (some 1) = "!") && decide (cutS (rowT r) (some 1) none = r.nm) && decide (r.vl = "")
  | .not => decide (cutS (rowT r) none (some 1) ≠ "!") && (hasT "!=" (rowT r) && decide (Txt.splitMax (rowT r) "!=" 1 = [r.nm, r.vl]))
  | .is => decide (cutS (rowT r) none (some 1) ≠ "!") && (!hasT "!=" (rowT r) && (hasT "=" (rowT r) && decide (Txt.splitMax (rowT r) "=" 1 = [r.nm, r.vl])))
  | .there => decide (cutS (rowT r) none (some 1) ≠ "!") && (!hasT "!=" (rowT r) && (!hasT "=" (rowT r) && (decide (rowT r = r.nm) && decide (r.vl = "")))))))))))
set_option maxRecDepth 100000 in
theorem rows_fact : allRows.all rowFact = true := by decide +kernel
structure RowF (r : Row) : Prop where
  lt : (rowT r).length ≤ 50
  ln : r.nm.length ≤ 50
  lv : r.vl.length ≤ 50
  un : userB r.nm = true
  lb : lvalB r.vl = true
  com : (44 : Nat) ∉ tl (rowT r)
  ne : rowT r ≠ ""
  mis : r.vb = .missing → cutS (rowT r) none (some 1) = "!" ∧ cutS (rowT r) (some 1) none = r.nm ∧ r.vl = ""
  neg : r.vb = .not → cutS (rowT r) none (some 1) ≠ "!" ∧ hasT "!=" (rowT r) = true ∧ Txt.splitMax (rowT r) "!=" 1 = [r.nm, r.vl]
  pos : r.vb = .is → cutS (rowT r) none (some 1) ≠ "!" ∧ hasT "!=" (rowT r) = false ∧ hasT "=" (rowT r) = true ∧ Txt.splitMax (rowT r) "=" 1 = [r.nm, r.vl]
  the : r.vb = .there → cutS (rowT r) none (some 1) ≠ "!" ∧ hasT "!=" (rowT r) = false ∧ hasT "=" (rowT r) = false ∧ rowT r = r.nm ∧ r.vl = ""
theorem row_f {r : Row} (h : r ∈ allRows) : RowF r := by
  have q := List.all_eq_true.mp rows_fact r h
  unfold rowFact at q
  simp only [Bool.and_eq_true, decide_eq_true_eq, Bool.not_eq_true', decide_eq_false_iff_not] at q
  obtain ⟨q1, q2, q3, q4, q5, q6, q7, q8⟩ := q
  refine ⟨q1, q2, q3, q4, q5, q6, q7, fun e => ?_, fun e => ?_, fun e => ?_, fun e => ?_⟩
  all_goals
    rw [e] at q8
    simp only [Bool.and_eq_true, decide_eq_true_eq, Bool.not_eq_true'] at q8
  · exact ⟨q8.1.1, q8.1.2, q8.2⟩
  · exact q8
  · exact q8
  · exact q8
def RowAt (H : Hp) (p : Addr) (r : Row) : Prop := H p = some (.tup (rowV r))
def RowsAt (H : Hp) (L : Addr) (rows : List Row) : Prop := ∃ ps : List Addr, H L = some (.lst (ps.map V.ref)) ∧ Paired (RowAt H) ps rows
def Rows8 (rows : List Row) : Prop := rows.length ≤ 8 ∧ ∀ r ∈ rows, r ∈ allRows
theorem Paired.mono {α β : Type} {F G : α → β → Prop} (f : ∀ a b, F a b → G a b) : ∀ {xs : List α} {ys : List β}, Paired F xs ys → Paired G xs ys
  | _, _, .nil => .nil
  | _, _, .cons r t => .cons (f _ _ r) (Paired.mono f t)
theorem rows_same {H H' : Hp} {L : Addr} {rows : List Row} (s : Same H H') (h : RowsAt H L rows) : RowsAt H' L rows := by
  obtain ⟨ps, h1, h2⟩ := h
  exact ⟨ps, s _ _ h1, Paired.mono (fun p r q => s _ _ q) h2⟩
def sp_requirement (K : PySem.W.Frag) : Sp := fun vs H Q _ => ∃ (r : Row), vs = [.str (rowT r)] ∧ r ∈ allRows ∧ ∀ (p : Addr) (H' : Hp), Same H H' → RowAt H' p r → Q (.ref p) H'
theorem ok_requirement {P : Program} {w : World} {K : PySem.W.Frag} {mg : Str → Option Value} {base : Heap} {fd : FuncData} (T : Txt K mg) (F : FnP K "requirement" s_requirement [] fd) : FnOk P w K mg base CX0 2 (He.ga K "requirement") fd ps_requirement (sp_requirement K) := by
  obtain ⟨fd_is_user_name, F_is_user_name⟩ := T.d_is_user_name
  have G_is_user_name := ok_is_user_name (P := P) (w := w) (base := base) T F_is_user_name
  have k_is_user_name := F_is_user_name.kp
  have b_is_user_name := bi_is_user_name F_is_user_name
  obtain ⟨fd_is_label_value, F_is_label_value⟩ := T.d_is_label_value
  have G_is_label_value := ok_is_label_value (P := P) (w := w) (base := base) T F_is_label_value
  have k_is_label_value := F_is_label_value.kp
  have b_is_label_value := bi_is_label_value F_is_label_value
  refine F.ok sc_requirement (fun vs H Q E h => ?len) (fun cdv A outer s H vs Q E hr h => ?body)
  case len => obtain ⟨r, rfl, hr0, k⟩ := h; rfl
  case body =>
  obtain ⟨r, rfl, hr0, k⟩ := h
  have hu := hu_of hr
  refine ⟨_, PSs.nox (pss_cons (ps_if (pt_cmpR op_eq (pe_slice sl_str (pv 0) po_none (po_some pe_int)) pe_str (nomark _)) (pss_one (ps_set (i := 1) sc_requirement.nd rfl (Or.inl rfl) (pe_tup (pa_cons (pe_slice sl_str (pv 0) (po_some pe_int) po_none) (pa_cons pe_str (pa_cons pe_str pa_nil)))))) (pss_one (ps_if (pt_cmpR op_in_str pe_str (pv 0) (by rfl)) (pss_cons (ps_asg (pe_bm PySem.F.plainAttrs_str PySem.F.slot_str_split PySem.F.type_str_split mt_splitMax (pv 0) (pa_cons pe_str (pa_cons pe_int pa_nil))) (pg_lst rfl (pgs_cons (pg_name (i := 2) sc_requirement.nd rfl (Or.inl rfl)) (pgs_cons (pg_name (i := 3) sc_requirement.nd rfl (Or.inl rfl)) pgs_nil))))
        (pss_one (ps_set (i := 1) sc_requirement.nd rfl (Or.inl rfl) (pe_tup (pa_cons (pv 2) (pa_cons pe_str (pa_cons (pv 3) pa_nil))))))) (pss_one (ps_if (pt_cmpR op_in_str pe_str (pv 0) (by rfl)) (pss_cons (ps_asg (pe_bm PySem.F.plainAttrs_str PySem.F.slot_str_split PySem.F.type_str_split mt_splitMax (pv 0) (pa_cons pe_str (pa_cons pe_int pa_nil))) (pg_lst rfl (pgs_cons (pg_name (i := 2) sc_requirement.nd rfl (Or.inl rfl)) (pgs_cons (pg_name (i := 3) sc_requirement.nd rfl (Or.inl rfl)) pgs_nil))))
          (pss_one (ps_set (i := 1) sc_requirement.nd rfl (Or.inl rfl) (pe_tup (pa_cons (pv 2) (pa_cons pe_str (pa_cons (pv 3) pa_nil))))))) (pss_one (ps_set (i := 1) sc_requirement.nd rfl (Or.inl rfl) (pe_tup (pa_cons (pv 0) (pa_cons pe_str (pa_cons pe_str pa_nil)))))))))))
    (pss_one (ps_ret (pe_ifExp (PW.pt (pw_and (pt_val (pe_call G_is_user_name (hr.mono (by first | decide | omega)) rfl T.g_is_user_name k_is_user_name b_is_user_name .nil pass0 (pa_cons (pe_ix ix_tup (pv 1) pe_int (fun _ _ => rfl)) pa_nil))) (pw_and1 (pt_val (pe_call G_is_label_value (hr.mono (by first | decide | omega)) rfl T.g_is_label_value k_is_label_value b_is_label_value .nil pass0 (pa_cons (pe_ix ix_tup (pv 1) pe_int (fun _ _ => rfl)) pa_nil)))))) (pv 1) pe_non)))), ?_⟩
  have f := row_f hr0
  -- the last row: found if both are right
  have fin : ∀ (p : Addr) (H1 : Hp) (n v : Option V), Same H H1 → RowAt H1 p r → tRet (tIf (tAnd (tB (tCall (sp_is_user_name K) [] E0 (tCons (tOp (rIxT K) (tVar 1) (tC (.int 0))) tNil))) (tB (tCall (sp_is_label_value K) [] E0 (tCons (tOp (rIxT K) (tVar 1) (tC (.int 2))) tNil)))) (tVar 1) (tC .non))
      { nx := fun _ H' => Q .non H', rt := Q } [some (.str (rowT r)), some (.ref p), n, v] H1 := by
    intro p H1 n v S1 h1
    refine ⟨_, rfl, p, _, 0, .str r.nm, rfl, rfl, SqT.of h1, rfl, r.nm, rfl, by have := f.ln; omega, fun H2 S2 => ⟨_, rfl, ?_⟩⟩
    rw [f.un]
    refine iteT ⟨_, rfl, p, _, 2, .str r.vl, rfl, rfl, SqT.of (S2 _ _ h1), rfl, r.vl, rfl, by have := f.lv; omega, fun H3 S3 => ⟨_, rfl, ?_⟩⟩
    rw [f.lb]
    exact iteT ⟨_, rfl, k p H3 (S1.trans (S2.trans S3)) (S3 _ _ (S2 _ _ h1))⟩
  have hz : (rowT r).length ≤ sizeLine := smallN (by have := f.lt; omega)
  refine ⟨_, rfl, _, rfl, _, rfl, hz, rfl, _, rfl, ?_⟩
  have mk : ∀ (a b c : Str), [V.str a, .str b, .str c] = rowV r → ∀ (H1 : Hp) (p : Addr), RowAt (upd H1 p (.tup [V.str a, .str b, .str c])) p r := fun a b c e H1 p => by
    unfold RowAt
    rw [upd_same, e]
  have spl : ∀ (sep : Str), (sep.length == 0) = false → Txt.splitMax (rowT r) sep 1 = [r.nm, r.vl] → ∀ (vbt : Str), vbt = vT r.vb → ∀ H1, Same H H1 →
      tSeq (tAsg (tBM K "str" (fun x xs H Q => ∃ (a b : Str) (k : Int), x = .str a ∧ xs = [.str b, .int k] ∧ (b.length == 0) = false ∧ -(2 ^ 63) ≤ k ∧ k < 2 ^ 63 ∧ a.length + 2 ≤ sizeLine ∧ rNewStrs (Txt.splitMax a b k) H Q) (tVar 0) (tCons (tC (.str sep)) (tCons (tC (.int 1)) tNil))) (gLst K 2 (gCons (gName 2) (gCons (gName 3) gNil))))
        (tAsg (tTup (tCons (tVar 2) (tCons (tC (.str vbt)) (tCons (tVar 3) tNil)))) (gName 1))
      { nx := tRet (tIf (tAnd (tB (tCall (sp_is_user_name K) [] E0 (tCons (tOp (rIxT K) (tVar 1) (tC (.int 0))) tNil))) (tB (tCall (sp_is_label_value K) [] E0 (tCons (tOp (rIxT K) (tVar 1) (tC (.int 2))) tNil)))) (tVar 1) (tC .non)) { nx := fun _ H' => Q .non H', rt := Q }, rt := Q } [some (.str (rowT r)), none, none, none] H1 := by
    intro sep h0 hs vbt hv H1 S1
    refine ⟨_, rfl, rfl, _, _, _, rfl, rfl, h0, by decide, by decide, (by rw [sizeLine_eq]; have := f.lt; omega), fun p hp => ?_⟩
    rw [hs]
    refine ⟨p, _, rfl, SqL.of upd_same, rfl, _, _, rfl, _, _, rfl, rfl, ?_⟩
    refine ⟨_, rfl, _, rfl, smallN (by show 3 ≤ 1000; decide), fun q hq => ?_⟩
    exact fin q _ _ _ (S1.trans ((Same.new hp).trans (Same.new hq))) (mk _ _ _ (by rw [hv]; rfl) _ q)
  cases evb : r.vb with
  | missing =>
    obtain ⟨m1, m2, m3⟩ := f.mis evb
    rw [m1, decide_eq_true (show V.str "!" = V.str "!" from rfl)]
    refine iteT ?_
    refine ⟨_, rfl, _, rfl, _, rfl, hz, smallN (by show 3 ≤ 1000; decide), fun p hp => ?_⟩
    exact fin p _ _ _ (Same.new hp) (mk _ _ _ (by unfold rowV; rw [m2, evb, m3]; rfl) _ p)
  | not =>
    obtain ⟨m1, m2, m3⟩ := f.neg evb
    rw [decide_eq_false (show ¬ V.str (cutS (rowT r) none (some 1)) = V.str "!" from fun z => m1 (by injection z))]
    refine iteF ⟨_, rfl, _, _, rfl, rfl, _, rfl, ?_⟩
    have m2 : (!(Builtin.Str.occurrences (rowT r) "!=" 0 (rowT r).length 1).isEmpty) = true := m2
    rw [m2]
    exact iteT (spl "!=" rfl m3 "not" (by rw [evb]; rfl) H (Same.refl H))
  | is =>
    obtain ⟨m1, m2, m3, m4⟩ := f.pos evb
    rw [decide_eq_false (show ¬ V.str (cutS (rowT r) none (some 1)) = V.str "!" from fun z => m1 (by injection z))]
    refine iteF ⟨_, rfl, _, _, rfl, rfl, _, rfl, ?_⟩
    have m2 : (!(Builtin.Str.occurrences (rowT r) "!=" 0 (rowT r).length 1).isEmpty) = false := m2
    rw [m2]
    refine iteF ⟨_, rfl, _, _, rfl, rfl, _, rfl, ?_⟩
    have m3 : (!(Builtin.Str.occurrences (rowT r) "=" 0 (rowT r).length 1).isEmpty) = true := m3
    rw [m3]
    exact iteT (spl "=" rfl m4 "is" (by rw [evb]; rfl) H (Same.refl H))
  | there =>
    obtain ⟨m1, m2, m3, m4, m5⟩ := f.the evb
    rw [decide_eq_false (show ¬ V.str (cutS (rowT r) none (some 1)) = V.str "!" from fun z => m1 (by injection z))]
    refine iteF ⟨_, rfl, _, _, rfl, rfl, _, rfl, ?_⟩
    have m2 : (!(Builtin.Str.occurrences (rowT r) "!=" 0 (rowT r).length 1).isEmpty) = false := m2
    rw [m2]
    refine iteF ⟨_, rfl, _, _, rfl, rfl, _, rfl, ?_⟩
    have m3 : (!(Builtin.Str.occurrences (rowT r) "=" 0 (rowT r).length 1).isEmpty) = false := m3
    rw [m3]
    refine iteF ?_
    refine ⟨_, rfl, smallN (by show 3 ≤ 1000; decide), fun p hp => ?_⟩
    exact fin p _ _ _ (Same.new hp) (mk _ _ _ (by unfold rowV; rw [evb, m5, m4]; rfl) _ p)

/-! ### selectors -/
def selT (rows : List Row) : Str := Txt.join "," (rows.map rowT)
theorem joinL_len (S : List Nat) (m : Nat) : ∀ ps : List (List Nat), (∀ p ∈ ps, p.length ≤ m) → (TL.joinL S ps).length ≤ ps.length * (m + S.length)
  | [], _ => by simp [TL.joinL]
  | [p], h => by
    have := h p (List.mem_singleton.mpr rfl)
    simp only [TL.joinL, List.length_singleton]; omega
  | p :: q :: r, h => by
    have h1 := h p (List.mem_cons_self ..)
    have h2 := joinL_len S m (q :: r) fun z hz => h z (List.mem_cons_of_mem _ hz)
    simp only [TL.joinL, List.length_append]
    rw [List.length_cons, Nat.add_mul]
    omega
theorem selT_len {rows : List Row} (h : Rows8 rows) : (selT rows).length ≤ 1000 := by
  have e : (selT rows).length = (TL.tl (selT rows)).length := len_tl _
  rw [e]
  unfold selT
  rw [TL.join_eq, TL.tl_join]
  refine Nat.le_trans (joinL_len _ 50 _ ?_) ?_
  · intro p hp
    rw [List.map_map] at hp
    obtain ⟨r, hr, rfl⟩ := List.mem_map.mp hp
    have := (row_f (h.2 r hr)).lt
    rw [len_tl] at this
    exact this
  · have : (TL.tl (",":Str)).length = 1 := by decide +kernel
    rw [this, List.length_map, List.length_map]
    have := h.1
    omega
theorem selT_split {rows : List Row} (h : Rows8 rows) (hne : rows ≠ []) : Txt.split (selT rows) "," = rows.map rowT := by
  refine TL.split_join (s := 44) (S := []) (by decide +kernel) (by decide +kernel) (by simpa using hne) fun p hp => ?_
  obtain ⟨r, hr, rfl⟩ := List.mem_map.mp hp
  exact (row_f (h.2 r hr)).com
theorem selT_ne {rows : List Row} (h : Rows8 rows) (hne : rows ≠ []) : selT rows ≠ "" := by
  intro e
  have q := selT_split h hne
  rw [e] at q
  have q0 : Txt.split ("" : Str) "," = ([("" : Str)] : List Str) := by decide +kernel
  rw [q0] at q
  cases rows with
  | nil => exact hne rfl
  | cons r rs =>
    rw [List.map_cons] at q
    injection q with q1 _
    exact (row_f (h.2 r (List.mem_cons_self ..))).ne q1.symm
theorem selT_nil : selT [] = "" := by decide +kernel
theorem paired_snoc {α β : Type} {F : α → β → Prop} {a : α} {b : β} (h : F a b) : ∀ {xs : List α} {ys : List β}, Paired F xs ys → Paired F (xs ++ [a]) (ys ++ [b])
  | _, _, .nil => .cons h .nil
  | _, _, .cons r t => .cons r (paired_snoc h t)
theorem paired_len {α β : Type} {F : α → β → Prop} : ∀ {xs : List α} {ys : List β}, Paired F xs ys → xs.length = ys.length
  | _, _, .nil => rfl
  | _, _, .cons _ t => by rw [List.length_cons, List.length_cons, paired_len t]
theorem paired_at {α β : Type} {F : α → β → Prop} : ∀ {xs : List α} {ys : List β} {i : Nat} {a : α}, Paired F xs ys → xs[i]? = some a → ∃ b, ys[i]? = some b ∧ F a b
  | _, _, _, _, .nil, e => by simp at e
  | _, _, 0, _, .cons r _, e => by simp at e; subst e; exact ⟨_, rfl, r⟩
  | _, _, i + 1, a, .cons _ t, e => by
    obtain ⟨b, h1, h2⟩ := paired_at (i := i) (a := a) t (by simpa using e)
    exact ⟨b, by simpa using h1, h2⟩
def sp_rows_of (K : PySem.W.Frag) : Sp := fun vs H Q _ => ∃ (rows : List Row), vs = [.str (selT rows)] ∧ Rows8 rows ∧ ∀ (L : Addr) (H' : Hp), Same H H' → H L = none → RowsAt H' L rows → Q (.ref L) H'
theorem ok_rows_of {P : Program} {w : World} {K : PySem.W.Frag} {mg : Str → Option Value} {base : Heap} {fd : FuncData} (T : Txt K mg) (F : FnP K "rows_of" s_rows_of [] fd) : FnOk P w K mg base CX0 3 (He.ga K "rows_of") fd ps_rows_of (sp_rows_of K) := by
  obtain ⟨fd_requirement, F_requirement⟩ := T.d_requirement
  have G_requirement := ok_requirement (P := P) (w := w) (base := base) T F_requirement
  have k_requirement := F_requirement.kp
  have b_requirement := bi_requirement F_requirement
  obtain ⟨t_MOST_REQUIREMENTS, h_MOST_REQUIREMENTS⟩ := T.c_MOST_REQUIREMENTS
  refine F.ok sc_rows_of (fun vs H Q E h => ?len) (fun cdv A outer s H vs Q E hr h => ?body)
  case len => obtain ⟨rows, rfl, h8, k⟩ := h; rfl
  case body =>
  obtain ⟨rows, rfl, h8, k⟩ := h
  have hu := hu_of hr
  refine ⟨_, PSs.nox (pss_cons (ps_if (pt_not (pt_val (pe_callB call_isi (by rfl) T.n_isinstance (by decide +kernel) (pa_cons (pv 0) (pa_cons (pe_bltn (v := .ty "str") rfl T.n_str (by decide +kernel) rfl) pa_nil))))) (pss_one (ps_ret pe_non)) pss_nil)
    (pss_cons (ps_if (pt_cmpR op_eq (pv 0) pe_str (nomark _)) (pss_one (ps_ret (pe_lst pa_nil))) pss_nil)
    (pss_cons (ps_set (i := 1) sc_rows_of.nd rfl (Or.inl rfl) (pe_split (pv 0) pe_str))
    (pss_cons (ps_if (pt_cmpR op_gt (pe_callB call_len_seq (by rfl) T.n_len (by decide +kernel) (pa_cons (pv 1) pa_nil)) (pe_glob (v := .int 8) rfl h_MOST_REQUIREMENTS ⟨_, rfl⟩) (nomark _)) (pss_one (ps_ret pe_non)) pss_nil)
    (pss_cons (ps_setLc (i := 2) (own := [("row", 3)]) rfl sc_rows_of.nd rfl rfl (sw_true rfl rfl rfl (by decide +kernel)) (pi_list (pe_lc (own := [("part", 4)]) rfl sc_rows_of.nd (pi_list (pv 1)) (blkOk_by (own := [("part", 4)]) (N := N_rows_of) (sc := defScope s_rows_of) (by decide +kernel)) (fun _ _ _ _ _ => (pg_name (i := 4) sc_rows_of.nd rfl (Or.inl rfl))) (fun _ _ _ _ _ => pts_nil) (fun _ _ _ _ _ => (pe_call G_requirement (hr.mono (by first | decide | omega)) rfl T.g_requirement k_requirement b_requirement .nil pass0 (pa_cons (pv 4) pa_nil))))) (blkOk_by (own := [("row", 3)]) (N := N_rows_of) (sc := defScope s_rows_of) (by decide +kernel)) (fun _ _ _ _ _ => (pg_name (i := 3) sc_rows_of.nd rfl (Or.inl rfl))) (fun _ _ _ _ _ => (pts_one (pt_cmpR op_notN (pv 3) pe_non (nomark _)))) (fun _ _ _ _ _ => (pv 3)))
    (pss_one (ps_ret (pe_ifExp (pt_cmpR op_eq (pe_callB call_len_seq (by rfl) T.n_len (by decide +kernel) (pa_cons (pv 2) pa_nil)) (pe_callB call_len_seq (by rfl) T.n_len (by decide +kernel) (pa_cons (pv 1) pa_nil)) (nomark _)) (pv 2) pe_non)))))))), ?_⟩
  refine ⟨_, rfl, .str (selT rows), .ty "str", _, _, _, rfl, .ty "str", .base (.str _), kit_str, _, rfl, ?_⟩
  refine iteF ⟨_, rfl, rfl, _, rfl, ?_⟩
  by_cases hne : rows = []
  · subst hne
    rw [selT_nil, decide_eq_true (show V.str "" = V.str "" from rfl)]
    exact iteT ⟨smallN (by decide), fun L hL => k L _ (Same.new hL) hL ⟨[], upd_same, .nil⟩⟩
  rw [decide_eq_false (show ¬ V.str (selT rows) = V.str "" from fun z => selT_ne h8 hne (by injection z))]
  refine iteF ?_
  refine ⟨_, rfl, ⟨_, rfl⟩, _, _, rfl, rfl, rfl, (by rw [sizeLine_eq]; have := selT_len h8; omega), fun p1 q1 => ?_⟩
  rw [selT_split h8 hne]
  have S1 := Same.new (u := .lst ((rows.map rowT).map V.str)) q1
  have g1 : (upd H p1 (.lst ((rows.map rowT).map V.str))) p1 = _ := upd_same
  generalize upd H p1 (.lst ((rows.map rowT).map V.str)) = H1 at S1 g1 ⊢
  have e1 : ((rows.map rowT).map V.str).length = rows.length := by rw [List.length_map, List.length_map]
  refine ⟨_, rfl, p1, _, rfl, .inl (SqL.of g1), _, _, rfl, rfl, _, rfl, ?_⟩
  rw [decide_eq_false (show ¬ (8 : Int) < (((rows.map rowT).map V.str).length : Int) by rw [e1]; have := h8.1; omega)]
  refine iteF ?_
  refine ⟨_, rfl, p1, rfl, ⟨_, SqL.of g1⟩, fun D1 hD1 => ?_⟩
  refine lc_list (K := K) (a := p1) (xs := (rows.map rowT).map V.str) (fun i H' => Same H1 H' ∧ ∃ ps : List Addr, H' D1 = some (.lst (ps.map V.ref)) ∧ Paired (RowAt H') ps (rows.take i)) ⟨Same.new hD1, [], upd_same, .nil⟩ (fun i H' _ p => SqL.of (p.1 _ _ g1)) ?_ ?_
  · rintro i x H2 hx ⟨S2, ps, gD, hp⟩
    rw [List.map_map, List.getElem?_map] at hx
    obtain ⟨r, er, rfl⟩ := Option.map_eq_some_iff.mp hx
    refine ⟨rfl, yes_ ?_⟩
    refine iteT ?_
    refine ⟨_, rfl, r, rfl, h8.2 r (mem_at er), fun p H3 S3 hr3 => ?_⟩
    have lp := paired_len hp
    refine ⟨_, S3 _ _ gD, small1000 (by rw [List.length_map, lp, List.length_take]; have := h8.1; omega), fun b o hb => ?_, ps ++ [p], ?_, ?_⟩
    · rw [upd_ne (ne_of_none hb hD1)]; exact S3 _ _ (S2 b o hb)
    · rw [upd_same, List.map_append]; rfl
    · rw [get_take er]
      have up : ∀ (a : Addr) (q : Row), RowAt H3 a q → RowAt (upd H3 D1 (.lst (ps.map V.ref ++ [.ref p]))) a q := fun a q hq => by
        unfold RowAt at hq ⊢
        rw [upd_ne (ne_of hq (S3 _ _ gD) fun z => by cases z)]; exact hq
      exact paired_snoc (up _ _ hr3) (Paired.mono (fun a q hq => up a q (S3 _ _ hq)) hp)
  · rintro H2 ⟨S2, ps, gD, hp⟩
    rw [e1, List.take_length] at hp
    have lp := paired_len hp
    refine ⟨D1, rfl, ⟨_, SqL.of gD⟩, fun D2 hD2 => ?_⟩
    refine lc_list (K := K) (a := D1) (xs := ps.map V.ref) (fun i H' => Same H2 H' ∧ H' D2 = some (.lst ((ps.take i).map V.ref))) ⟨Same.new hD2, upd_same⟩ (fun i H' _ p => SqL.of (p.1 _ _ gD)) ?_ ?_
    · rintro i x H3 hx ⟨S3, gD2⟩
      rw [List.getElem?_map] at hx
      obtain ⟨p, ep, rfl⟩ := Option.map_eq_some_iff.mp hx
      refine ⟨rfl, ?_⟩
      refine ⟨_, rfl, rfl, _, rfl, ?_⟩
      refine iteT ⟨_, rfl, _, gD2, small1000 (by rw [List.length_map, List.length_take]; have := h8.1; omega), fun b o hb => ?_, ?_⟩
      · rw [upd_ne (ne_of_none hb hD2)]; exact S3 b o hb
      · rw [upd_same, get_take ep, List.map_append]; rfl
    · rintro H3 ⟨S3, gD2⟩
      rw [List.length_map, List.take_length] at gD2
      have S13 := S2.trans S3
      refine ⟨_, rfl, D2, _, rfl, .inl (SqL.of gD2), _, rfl, p1, _, rfl, .inl (SqL.of (S13 _ _ g1)), rfl, _, rfl, ?_⟩
      rw [e1, List.length_map, lp, decide_eq_true rfl]
      refine iteT ⟨_, rfl, k D2 H3 (S1.trans S13) (S1.free (S2.free hD2)) ⟨ps, gD2, Paired.mono (fun a q hq => S3 _ _ hq) hp⟩⟩
def sp_is_selector (K : PySem.W.Frag) : Sp := fun vs H Q _ => ∃ (rows : List Row), vs = [.str (selT rows)] ∧ Rows8 rows ∧ ∀ (H' : Hp), Same H H' → Q (.bl true) H'
theorem ok_is_selector {P : Program} {w : World} {K : PySem.W.Frag} {mg : Str → Option Value} {base : Heap} {fd : FuncData} (T : Txt K mg) (F : FnP K "is_selector" s_is_selector [] fd) : FnOk P w K mg base CX0 4 (He.ga K "is_selector") fd ps_is_selector (sp_is_selector K) := by
  obtain ⟨fd_rows_of, F_rows_of⟩ := T.d_rows_of
  have G_rows_of := ok_rows_of (P := P) (w := w) (base := base) T F_rows_of
  have k_rows_of := F_rows_of.kp
  have b_rows_of := bi_rows_of F_rows_of
  refine F.ok sc_is_selector (fun vs H Q E h => ?len) (fun cdv A outer s H vs Q E hr h => ?body)
  case len => obtain ⟨rows, rfl, h8, k⟩ := h; rfl
  case body =>
  obtain ⟨rows, rfl, h8, k⟩ := h
  have hu := hu_of hr
  refine ⟨_, PSs.nox (pss_one (ps_ret (pe_cmpR op_notN (pe_call G_rows_of (hr.mono (by first | decide | omega)) rfl T.g_rows_of k_rows_of b_rows_of .nil pass0 (pa_cons (pv 0) pa_nil)) pe_non (nomark _)))), ?_⟩
  exact ⟨_, rfl, rows, rfl, h8, fun L H' S _ _ => ⟨rfl, k H' S⟩⟩
def sp_requirements (K : PySem.W.Frag) : Sp := fun vs H Q _ => ∃ (rows : List Row), vs = [.str (selT rows)] ∧ Rows8 rows ∧ ∀ (L : Addr) (H' : Hp), Same H H' → H L = none → RowsAt H' L rows → Q (.ref L) H'
theorem ok_requirements {P : Program} {w : World} {K : PySem.W.Frag} {mg : Str → Option Value} {base : Heap} {fd : FuncData} (T : Txt K mg) (F : FnP K "requirements" s_requirements [] fd) : FnOk P w K mg base CX0 4 (He.ga K "requirements") fd ps_requirements (sp_requirements K) := by
  obtain ⟨fd_rows_of, F_rows_of⟩ := T.d_rows_of
  have G_rows_of := ok_rows_of (P := P) (w := w) (base := base) T F_rows_of
  have k_rows_of := F_rows_of.kp
  have b_rows_of := bi_rows_of F_rows_of
  refine F.ok sc_requirements (fun vs H Q E h => ?len) (fun cdv A outer s H vs Q E hr h => ?body)
  case len => obtain ⟨rows, rfl, h8, k⟩ := h; rfl
  case body =>
  obtain ⟨rows, rfl, h8, k⟩ := h
  have hu := hu_of hr
  refine ⟨_, PSs.nox (pss_cons (ps_set (i := 1) sc_requirements.nd rfl (Or.inl rfl) (pe_call G_rows_of (hr.mono (by first | decide | omega)) rfl T.g_rows_of k_rows_of b_rows_of .nil pass0 (pa_cons (pv 0) pa_nil)))
    (pss_cons (ps_if (pt_cmpR op_isN (pv 1) pe_non (nomark _)) (pss_one ps_never) pss_nil)
    (pss_one (ps_ret (pv 1))))), ?_⟩
  exact ⟨_, rfl, rows, rfl, h8, fun L H' S hL hR => ⟨_, rfl, rfl, _, rfl, iteF ⟨_, rfl, k L H' S hL hR⟩⟩⟩

/-! ### a text times a number -/
def strRep (x : Str) (n : Int) : Str := if n < 1 then Str.empty else if (n == 1 || x.length == 0) = true then x else ⟨(List.replicate n.toNat x.cps).foldl (· ++ ·) #[]⟩
def rRepS : R2 := fun x y H Q => ∃ (z : Str) (n : Int), x = .str z ∧ y = .int n ∧ z.length ≤ 1000 ∧ -1000 ≤ n ∧ n ≤ 10000 ∧ Q (.str (strRep z n)) H
theorem rep_size (a : Array Nat) : ∀ (k : Nat) (acc : Array Nat), ((List.replicate k a).foldl (· ++ ·) acc).size = acc.size + k * a.size
  | 0, acc => by simp
  | k + 1, acc => by
    rw [List.replicate_succ, List.foldl_cons, rep_size a k, Array.size_append, Nat.succ_mul]
    omega
theorem op_rep_str {X : Cx} : OpR X (binaryOp .Mult) rRepS := by
  intro pins s σ H x y v u Q I rx ry h
  obtain ⟨z, n, rfl, rfl, h1, h2, h3, q⟩ := h
  obtain ⟨t, rfl⟩ := rx
  obtain ⟨t', rfl⟩ := ry
  have big : ¬ n < 1 → (z.length : Int) * n ≤ 1000 * 10000 := fun hn => Int.mul_le_mul (by omega) (by omega) (by omega) (by omega)
  refine PySem.P.mul_str ?_ (fun hn _ => ?_) (fun hn _ => ?_) ?_
  · rw [decide_eq_false (by omega), decide_eq_false (by omega)]; rfl
  · have := Int.le_ediv_of_mul_le (a := (z.length : Int)) (b := 2 ^ 63 - 1) (c := n) (by omega) (by have := big hn; omega)
    omega
  · have b := big hn
    have e : ((z.length * n.toNat : Nat) : Int) = (z.length : Int) * n := by rw [Int.natCast_mul, Int.toNat_of_nonneg (by omega)]
    unfold Builtin.Str.tooLong
    exact decide_eq_false (by rw [sizeLine_eq]; omega)
  · unfold strRep at q
    split
    · rename_i c
      rw [if_pos c] at q
      exact ⟨by decide, ⟨.str _, H, I.tok _, ⟨_, rfl⟩, q⟩⟩
    · rename_i c
      rw [if_neg c] at q
      split
      · rename_i d
        rw [if_pos d] at q
        exact ⟨.str _, H, I, ⟨_, rfl⟩, q⟩
      · rename_i d
        rw [if_neg d] at q
        refine ⟨?_, ⟨.str _, H, I.tok _, ⟨_, rfl⟩, q⟩⟩
        have b := big c
        have e : ((z.length * n.toNat : Nat) : Int) = (z.length : Int) * n := by rw [Int.natCast_mul, Int.toNat_of_nonneg (by omega)]
        have l := rep_size z.cps n.toNat #[]
        show ((List.replicate n.toNat z.cps).foldl (· ++ ·) #[]).size ≤ sizeLine
        rw [l, sizeLine_eq]
        have e2 : z.cps.size = z.length := rfl
        rw [e2, Nat.mul_comm]
        show 0 + z.length * n.toNat ≤ _
        omega

/-! ### a row fulfilled -/
def fulB (r : Row) (o : Option V) : Bool := match r.vb with
  | .is => decide (o = some (.str r.vl))
  | .not => !decide (o = some (.str r.vl))
  | .there => o.isSome
  | .missing => !o.isSome
def look (kvs : List (Str × Str)) (n : Str) : Option V := valV (labD kvs) (Sum.inr n)
theorem look_str : ∀ {kvs : List (Str × Str)} {n : Str} {v : V}, look kvs n = some v → ∃ x, v = .str x
  | [], n, v, h => by cases h
  | p :: r, n, v, h => by
    unfold look labD at h
    rw [List.map_cons] at h
    by_cases e : (Sum.inr p.1 : Key) = Sum.inr n
    · rw [valV_pos (p := (Sum.inr p.1, V.str p.2)) e] at h
      cases h
      exact ⟨_, rfl⟩
    · rw [valV_neg (p := (Sum.inr p.1, V.str p.2)) e] at h
      exact look_str (kvs := r) h
def sp_is_fulfilled (K : PySem.W.Frag) : Sp := fun vs H Q _ => ∃ (p d : Addr) (r : Row) (kvs : List (Str × Str)), vs = [.ref p, .ref d] ∧ RowAt H p r ∧ H d = some (.dK (labD kvs)) ∧ Q (.bl (fulB r (look kvs r.nm))) H
theorem dec_some (o x : Str) : decide (some (V.str o) = some (V.str x)) = decide (V.str o = V.str x) := by
  rw [decide_eq_decide]
  exact ⟨fun h => Option.some.inj h, fun h => congrArg some h⟩
theorem ok_is_fulfilled {P : Program} {w : World} {K : PySem.W.Frag} {mg : Str → Option Value} {base : Heap} {fd : FuncData} (T : Txt K mg) (F : FnP K "is_fulfilled" s_is_fulfilled [] fd) : FnOk P w K mg base CX0 1 (He.ga K "is_fulfilled") fd ps_is_fulfilled (sp_is_fulfilled K) := by
  refine F.ok sc_is_fulfilled (fun vs H Q E h => ?len) (fun cdv A outer s H vs Q E hr h => ?body)
  case len => obtain ⟨p, d, r, kvs, rfl, hp, hd, k⟩ := h; rfl
  case body =>
  obtain ⟨p, d, r, kvs, rfl, hp, hd, k⟩ := h
  have hu := hu_of hr
  refine ⟨_, PSs.nox (pss_cons (ps_asg (pv 0) (pg_tup rfl (pgs_cons (pg_name (i := 2) sc_is_fulfilled.nd rfl (Or.inl rfl)) (pgs_cons (pg_name (i := 3) sc_is_fulfilled.nd rfl (Or.inl rfl)) (pgs_cons (pg_name (i := 4) sc_is_fulfilled.nd rfl (Or.inl rfl)) pgs_nil)))))
    (pss_cons (ps_if (pt_cmpR op_eq (pv 3) pe_str (nomark _)) (pss_one (ps_ret (pe_and (pe_cmp (pc_din hu (pv 2) (pv 1))) (pe_one (pe_cmpR op_eq (pe_dget hu (pv 1) (pv 2) (fun _ _ => rfl)) (pv 4) (nomark _)))))) pss_nil)
    (pss_cons (ps_if (pt_cmpR op_eq (pv 3) pe_str (nomark _)) (pss_one (ps_ret (pe_or (pe_cmp (pc_dnotin hu (pv 2) (pv 1))) (pe_one (pe_cmpR op_ne (pe_dget hu (pv 1) (pv 2) (fun _ _ => rfl)) (pv 4) (nomark _)))))) pss_nil)
    (pss_one (ps_ret (pe_cmpR op_eq (pe_cmp (pc_din hu (pv 2) (pv 1))) (pe_cmpR op_eq (pv 3) pe_str (nomark _)) (nomark _))))))), ?_⟩
  have hg : DGet H d (.str r.nm) (look kvs r.nm) := DGet.k (k := Sum.inr r.nm) hd
  have hs := @look_str kvs r.nm
  generalize look kvs r.nm = o at hg hs k
  refine ⟨_, rfl, p, _, rfl, SqT.of hp, rfl, _, _, rfl, _, _, rfl, _, _, rfl, rfl, ?_⟩
  refine ⟨_, rfl, rfl, _, rfl, ?_⟩
  unfold fulB at k
  cases evb : r.vb with
  | is =>
    rw [evb] at k
    refine iteT ⟨_, rfl, _, rfl, d, o, rfl, hg, _, rfl, ?_⟩
    cases o with
    | none => exact iteF k
    | some v =>
      obtain ⟨x, rfl⟩ := hs rfl
      refine iteT ⟨_, rfl, _, rfl, d, _, rfl, hg, _, rfl, rfl, ?_⟩
      dsimp only at k
      rw [dec_some] at k
      exact k
  | not =>
    rw [evb] at k
    refine iteF ⟨_, rfl, rfl, _, rfl, ?_⟩
    refine iteT ⟨_, rfl, _, rfl, d, o, rfl, hg, _, rfl, ?_⟩
    cases o with
    | none => exact iteT k
    | some v =>
      obtain ⟨x, rfl⟩ := hs rfl
      refine iteF ⟨_, rfl, _, rfl, d, _, rfl, hg, _, rfl, rfl, ?_⟩
      dsimp only at k
      rw [dec_some] at k
      exact k
  | there =>
    rw [evb] at k
    refine iteF ⟨_, rfl, rfl, _, rfl, ?_⟩
    refine iteF ⟨_, rfl, _, rfl, d, o, rfl, hg, _, rfl, rfl, rfl, ?_⟩
    cases o with
    | none => exact k
    | some v => exact k
  | missing =>
    rw [evb] at k
    refine iteF ⟨_, rfl, rfl, _, rfl, ?_⟩
    refine iteF ⟨_, rfl, _, rfl, d, o, rfl, hg, _, rfl, rfl, rfl, ?_⟩
    cases o with
    | none => exact k
    | some v => exact k
/-- all rows fulfilled -/
def fulAll (rows : List Row) (kvs : List (Str × Str)) : Bool := rows.all fun r => fulB r (look kvs r.nm)
def sp_matches (K : PySem.W.Frag) : Sp := fun vs H Q _ => ∃ (d : Addr) (rows : List Row) (kvs : List (Str × Str)), vs = [.str (selT rows), .ref d] ∧ Rows8 rows ∧ H d = some (.dK (labD kvs)) ∧ LabOk kvs ∧ ∀ H', Same H H' → Q (.bl (fulAll rows kvs)) H'
theorem ok_matches {P : Program} {w : World} {K : PySem.W.Frag} {mg : Str → Option Value} {base : Heap} {fd : FuncData} (T : Txt K mg) (F : FnP K "matches" s_matches [] fd) : FnOk P w K mg base CX0 5 (He.ga K "matches") fd ps_matches (sp_matches K) := by
  obtain ⟨fd_requirements, F_requirements⟩ := T.d_requirements
  have G_requirements := ok_requirements (P := P) (w := w) (base := base) T F_requirements
  have k_requirements := F_requirements.kp
  have b_requirements := bi_requirements F_requirements
  obtain ⟨fd_is_labels, F_is_labels⟩ := T.d_is_labels
  have G_is_labels := ok_is_labels (P := P) (w := w) (base := base) T F_is_labels
  have k_is_labels := F_is_labels.kp
  have b_is_labels := bi_is_labels F_is_labels
  obtain ⟨fd_is_fulfilled, F_is_fulfilled⟩ := T.d_is_fulfilled
  have G_is_fulfilled := ok_is_fulfilled (P := P) (w := w) (base := base) T F_is_fulfilled
  have k_is_fulfilled := F_is_fulfilled.kp
  have b_is_fulfilled := bi_is_fulfilled F_is_fulfilled
  refine F.ok sc_matches (fun vs H Q E h => ?len) (fun cdv A outer s H vs Q E hr h => ?body)
  case len => obtain ⟨d, rows, kvs, rfl, h8, hd, ok, k⟩ := h; rfl
  case body =>
  obtain ⟨d, rows, kvs, rfl, h8, hd, ok, k⟩ := h
  have hu := hu_of hr
  refine ⟨_, PSs.nox (pss_cons (ps_set (i := 2) sc_matches.nd rfl (Or.inl rfl) (pe_call G_requirements (hr.mono (by first | decide | omega)) rfl T.g_requirements k_requirements b_requirements .nil pass0 (pa_cons (pv 0) pa_nil)))
    (pss_cons (ps_if (pt_not (pt_val (pe_call G_is_labels (hr.mono (by first | decide | omega)) rfl T.g_is_labels k_is_labels b_is_labels .nil pass0 (pa_cons (pv 1) pa_nil)))) (pss_one ps_never) pss_nil)
    (pss_one (ps_ret (pe_callB (cr_all rfl) (by rfl) T.n_all (by decide +kernel) (pa_cons (pe_lc (own := [("row", 3)]) rfl sc_matches.nd (pi_list (pv 2)) (blkOk_by (own := [("row", 3)]) (N := N_matches) (sc := defScope s_matches) (by decide +kernel)) (fun _ _ _ _ _ => (pg_name (i := 3) sc_matches.nd rfl (Or.inl rfl))) (fun _ _ _ _ _ => pts_nil) (fun _ _ _ _ _ => (pe_call G_is_fulfilled (hr.mono (by first | decide | omega)) rfl T.g_is_fulfilled k_is_fulfilled b_is_fulfilled .nil pass0 (pa_cons (pv 3) (pa_cons (pv 1) pa_nil))))) pa_nil)))))), ?_⟩
  refine ⟨_, rfl, rows, rfl, h8, fun L H1 S1 hL hR => ?_⟩
  refine ⟨_, rfl, d, kvs, rfl, S1 _ _ hd, ok, fun H2 S2 => ⟨_, rfl, iteF ?_⟩⟩
  obtain ⟨ps, gL, hp⟩ := rows_same S2 hR
  have hd2 := S2 _ _ (S1 _ _ hd)
  have lp := paired_len hp
  refine ⟨_, rfl, L, rfl, ⟨_, SqL.of gL⟩, fun D hD => ?_⟩
  refine lc_list (K := K) (a := L) (xs := ps.map V.ref) (fun i H' => Same H2 H' ∧ H' D = some (.lst ((rows.take i).map fun r => V.bl (fulB r (look kvs r.nm))))) ⟨Same.new hD, upd_same⟩ (fun i H' _ p => SqL.of (p.1 _ _ gL)) ?_ ?_
  · rintro i x H3 hx ⟨S3, gD⟩
    rw [List.getElem?_map] at hx
    obtain ⟨p, ep, rfl⟩ := Option.map_eq_some_iff.mp hx
    obtain ⟨r, er, hr1⟩ : ∃ r, rows[i]? = some r ∧ RowAt H2 p r := paired_at hp ep
    refine ⟨rfl, yes_ ?_⟩
    refine iteT ?_
    refine ⟨_, rfl, _, rfl, p, d, r, kvs, rfl, S3 _ _ hr1, S3 _ _ hd2, ?_⟩
    refine ⟨_, gD, small1000 (by rw [List.length_map, List.length_take]; have := h8.1; omega), fun b o hb => ?_, ?_⟩
    · rw [upd_ne (ne_of_none hb hD)]; exact S3 b o hb
    · rw [upd_same, get_take er, List.map_append]; rfl
  · rintro H3 ⟨S3, gD⟩
    rw [List.length_map, lp, List.take_length] at gD
    have gD2 : H3 D = some (.lst ((rows.map fun r => fulB r (look kvs r.nm)).map V.bl)) := by rw [gD, List.map_map]; rfl
    refine ⟨D, rows.map fun r => fulB r (look kvs r.nm), rfl, SqL.of gD2, ?_⟩
    have q := k H3 (S1.trans (S2.trans S3))
    have e : fulAll rows kvs = (rows.map fun r => fulB r (look kvs r.nm)).all id := by unfold fulAll; rw [List.all_map]; rfl
    rw [e] at q
    exact q

/-! ### the law's own draws -/
theorem row_mem {n v : Str} (hn : n ∈ names4) (hv : v ∈ vals8) : (⟨n, .is, v⟩ : Row) ∈ allRows ∧ (⟨n, .not, v⟩ : Row) ∈ allRows ∧ (⟨n, .there, ""⟩ : Row) ∈ allRows ∧ (⟨n, .missing, ""⟩ : Row) ∈ allRows := by
  refine ⟨?_, ?_, ?_, ?_⟩ <;> refine List.mem_flatMap.mpr ⟨n, hn, ?_⟩
  · exact List.mem_append_left _ (List.mem_flatMap.mpr ⟨v, hv, by simp⟩)
  · exact List.mem_append_left _ (List.mem_flatMap.mpr ⟨v, hv, by simp⟩)
  · exact List.mem_append_right _ (by simp)
  · exact List.mem_append_right _ (by simp)
theorem x24 : strRep "x" 24 = ("xxxxxxxxxxxxxxxxxxxxxxxx" : Str) := by decide +kernel
def sp__law_value (K : PySem.W.Frag) : Sp := fun vs H Q _ => ∃ (a : Addr) (n : Nat), vs = [.ref a] ∧ WellAt H a n ∧ n < 900000 ∧ ∀ (z : Str) (H' : Hp) (n' : Nat), z ∈ vals8 → Keep a H H' → WellAt H' a n' → n' ≤ n + 1 → Q (.str z) H'
theorem ok__law_value {P : Program} {w : World} {K : PySem.W.Frag} {mg : Str → Option Value} {base : Heap} {fd : FuncData} (T : Txt K mg) (F : FnP K "_law_value" s__law_value [] fd) : FnOk P w K mg base CX0 3 (He.ga K "_law_value") fd ps__law_value (sp__law_value K) := by
  obtain ⟨fd__law_pick, F__law_pick⟩ := T.d__law_pick
  have G__law_pick := ok__law_pick (P := P) (w := w) (base := base) T F__law_pick
  have k__law_pick := F__law_pick.kp
  have b__law_pick := bi__law_pick F__law_pick
  refine F.ok sc__law_value (fun vs H Q E h => ?len) (fun cdv A outer s H vs Q E hr h => ?body)
  case len => obtain ⟨a, n, rfl, hw, hn, k⟩ := h; rfl
  case body =>
  obtain ⟨a, n, rfl, hw, hn, k⟩ := h
  have hu := hu_of hr
  refine ⟨_, PSs.nox (pss_one (ps_ret (pe_call G__law_pick (hr.mono (by first | decide | omega)) rfl T.g__law_pick k__law_pick b__law_pick .nil pass0 (pa_cons (pv 0) (pa_cons (pe_lst (pa_cons pe_str (pa_cons pe_str (pa_cons pe_str (pa_cons pe_str (pa_cons pe_str (pa_cons pe_str (pa_cons pe_str (pa_cons (pe_op op_rep_str pe_str pe_int) pa_nil))))))))) pa_nil))))), ?_⟩
  refine ⟨_, rfl, _, _, rfl, rfl, (by decide), (by decide), (by decide), smallN (by show 8 ≤ 1000; decide), fun p hp => ?_⟩
  have w1 := well_new (u := .lst [.str "", .str "web", .str "db", .str "web", .str "a-1", .str "0", .str "-", .str (strRep "x" 24)]) hw hp
  refine ⟨a, p, n, _, rfl, w1, by omega, upd_same, well_ne3 hw hp, (by show 0 < 8; decide), (by show 8 ≤ 1000; decide), fun y u n' hy hn' hu' => ?_⟩
  obtain ⟨z, rfl, hz⟩ : ∃ z, y = .str z ∧ z ∈ vals8 := by
    rw [x24] at hy
    obtain ⟨z, hz, rfl⟩ := List.mem_map.mp (show y ∈ vals8.map V.str from hy)
    exact ⟨z, rfl, hz⟩
  exact k z _ n' hz ((Keep.new hp).trans Keep.at_) (well_upd hu') hn'
/-- some of the names -/
def Names (ns : List Str) : Prop := ns.length ≤ 4 ∧ 0 < ns.length ∧ ns.Nodup ∧ ∀ n ∈ ns, n ∈ names4
def sp__law_requirement (K : PySem.W.Frag) : Sp := fun vs H Q _ => ∃ (a b : Addr) (n : Nat) (ns : List Str), vs = [.ref a, .ref b] ∧ WellAt H a n ∧ n < 800000 ∧ H b = some (.lst (ns.map V.str)) ∧ b ≠ a ∧ Names ns ∧
  ∀ (p : Addr) (r : Row) (H' : Hp) (n' : Nat), r ∈ allRows → RowAt H' p r → Keep a H H' → WellAt H' a n' → n' ≤ n + 3 → Q (.ref p) H'
theorem ok__law_requirement {P : Program} {w : World} {K : PySem.W.Frag} {mg : Str → Option Value} {base : Heap} {fd : FuncData} (T : Txt K mg) (F : FnP K "_law_requirement" s__law_requirement [] fd) : FnOk P w K mg base CX0 4 (He.ga K "_law_requirement") fd ps__law_requirement (sp__law_requirement K) := by
  obtain ⟨fd__law_pick, F__law_pick⟩ := T.d__law_pick
  have G__law_pick := ok__law_pick (P := P) (w := w) (base := base) T F__law_pick
  have k__law_pick := F__law_pick.kp
  have b__law_pick := bi__law_pick F__law_pick
  obtain ⟨fd__law_value, F__law_value⟩ := T.d__law_value
  have G__law_value := ok__law_value (P := P) (w := w) (base := base) T F__law_value
  have k__law_value := F__law_value.kp
  have b__law_value := bi__law_value F__law_value
  refine F.ok sc__law_requirement (fun vs H Q E h => ?len) (fun cdv A outer s H vs Q E hr h => ?body)
  case len => obtain ⟨a, b, n, ns, rfl, hw, hn, hb, nb, hN, k⟩ := h; rfl
  case body =>
  obtain ⟨a, b, n, ns, rfl, hw, hn, hb, nb, hN, k⟩ := h
  have hu := hu_of hr
  refine ⟨_, PSs.nox (pss_cons (ps_par (i := 2) (j := 3) (by rfl) sc__law_requirement.nd rfl rfl (by decide) rfl rfl (pa_cons (pe_call G__law_pick (hr.mono (by first | decide | omega)) rfl T.g__law_pick k__law_pick b__law_pick .nil pass0 (pa_cons (pv 0) (pa_cons (pv 1) pa_nil))) (pa_cons (pe_call G__law_pick (hr.mono (by first | decide | omega)) rfl T.g__law_pick k__law_pick b__law_pick .nil pass0 (pa_cons (pv 0) (pa_cons (pe_lst (pa_cons pe_str (pa_cons pe_str (pa_cons pe_str (pa_cons pe_str (pa_cons pe_str pa_nil)))))) pa_nil))) pa_nil)) (by rfl))
    (pss_one (ps_ret (pe_tup (pa_cons (pv 2) (pa_cons (pv 3) (pa_cons (pe_ifExp (pt_cmpR op_in_seq (pv 3) (pe_tup (pa_cons pe_str (pa_cons pe_str pa_nil))) (by rfl)) (pe_call G__law_value (hr.mono (by first | decide | omega)) rfl T.g__law_value k__law_value b__law_value .nil pass0 (pa_cons (pv 0) pa_nil)) pe_str) pa_nil))))))), ?_⟩
  refine ⟨_, rfl, _, rfl, a, b, n, _, rfl, hw, by omega, hb, nb, (by rw [List.length_map]; exact hN.2.1), (by rw [List.length_map]; have := hN.1; omega), fun y u n1 hy hn1 hu1 => ?_⟩
  obtain ⟨nm, hnm, rfl⟩ := List.mem_map.mp hy
  have w1 := well_upd (H := H) (a := a) hu1
  have K1 : Keep a H (upd H a u) := Keep.at_
  generalize upd H a u = H1 at w1 K1 ⊢
  refine ⟨_, rfl, smallN (by show 5 ≤ 1000; decide), fun p hp => ?_⟩
  have w2 := well_new (u := .lst [.str "is", .str "not", .str "there", .str "missing", .str "not"]) w1 hp
  refine ⟨a, p, n1, _, rfl, w2, by omega, upd_same, well_ne3 w1 hp, (by show 0 < 5; decide), (by show 5 ≤ 1000; decide), fun y u2 n2 hy2 hn2 hu2 => ?_⟩
  obtain ⟨vb, rfl⟩ : ∃ vb, y = .str (vT vb) := by
    simp only [List.mem_cons, List.mem_nil_iff, or_false] at hy2
    rcases hy2 with rfl | rfl | rfl | rfl | rfl
    · exact ⟨.is, rfl⟩
    · exact ⟨.not, rfl⟩
    · exact ⟨.there, rfl⟩
    · exact ⟨.missing, rfl⟩
    · exact ⟨.not, rfl⟩
  have w3 := well_upd (H := upd H1 p (.lst [.str "is", .str "not", .str "there", .str "missing", .str "not"])) (a := a) hu2
  have K3 := K1.trans ((Keep.new (u := .lst [.str "is", .str "not", .str "there", .str "missing", .str "not"]) hp).trans (Keep.at_ (u := u2)))
  generalize upd (upd H1 p (.lst [.str "is", .str "not", .str "there", .str "missing", .str "not"])) a u2 = H3 at w3 K3 ⊢
  refine ⟨_, _, rfl, ?_⟩
  refine ⟨_, rfl, _, rfl, _, rfl, smallN (by show 2 ≤ 1000; decide), fun p4 hp4 => ?_⟩
  have w4 := well_new (u := .tup [.str "is", .str "not"]) w3 hp4
  have K4 := K3.trans (Keep.new (u := .tup [.str "is", .str "not"]) hp4)
  have g4 : (upd H3 p4 (.tup [.str "is", .str "not"])) p4 = _ := upd_same
  generalize upd H3 p4 (.tup [.str "is", .str "not"]) = H4 at w4 K4 g4 ⊢
  refine ⟨p4, _, rfl, .inr (SqT.of g4), rfl, rfl, _, rfl, ?_⟩
  have hm := hN.2.2.2 nm hnm
  have last : ∀ (r : Row) (H5 : Hp) (n5 : Nat), r ∈ allRows → Keep a H H5 → WellAt H5 a n5 → n5 ≤ n + 3 → ∀ p5, H5 p5 = none → Q (.ref p5) (upd H5 p5 (.tup (rowV r))) := fun r H5 n5 hr5 K5 w5 hn5 p5 hp5 =>
    k p5 r _ n5 hr5 upd_same (K5.trans (Keep.new hp5)) (well_new w5 hp5) hn5
  cases vb with
  | is => exact iteT ⟨_, rfl, a, n2, rfl, w4, by omega, fun z H5 n5 hz K5 w5 hn5 => ⟨smallN (by show 3 ≤ 1000; decide), last ⟨nm, .is, z⟩ H5 n5 (row_mem hm hz).1 (K4.trans K5) w5 (by omega)⟩⟩
  | not => exact iteT ⟨_, rfl, a, n2, rfl, w4, by omega, fun z H5 n5 hz K5 w5 hn5 => ⟨smallN (by show 3 ≤ 1000; decide), last ⟨nm, .not, z⟩ H5 n5 (row_mem hm hz).2.1 (K4.trans K5) w5 (by omega)⟩⟩
  | there => exact iteF ⟨smallN (by show 3 ≤ 1000; decide), last ⟨nm, .there, ""⟩ H4 n2 (row_mem hm (v := "") (by simp [vals8])).2.2.1 K4 w4 (by omega)⟩
  | missing => exact iteF ⟨smallN (by show 3 ≤ 1000; decide), last ⟨nm, .missing, ""⟩ H4 n2 (row_mem hm (v := "") (by simp [vals8])).2.2.2 K4 w4 (by omega)⟩
def sp__law_rows (K : PySem.W.Frag) : Sp := fun vs H Q _ => ∃ (a b : Addr) (n : Nat) (ns : List Str), vs = [.ref a, .ref b, .int 8] ∧ WellAt H a n ∧ n < 700000 ∧ H b = some (.lst (ns.map V.str)) ∧ b ≠ a ∧ Names ns ∧
  ∀ (L : Addr) (rows : List Row) (H' : Hp) (n' : Nat), Rows8 rows → RowsAt H' L rows → L ≠ a → Keep a H H' → WellAt H' a n' → n' ≤ n + 30 → Q (.ref L) H'
theorem ok__law_rows {P : Program} {w : World} {K : PySem.W.Frag} {mg : Str → Option Value} {base : Heap} {fd : FuncData} (T : Txt K mg) (F : FnP K "_law_rows" s__law_rows [] fd) : FnOk P w K mg base CX0 5 (He.ga K "_law_rows") fd ps__law_rows (sp__law_rows K) := by
  obtain ⟨fd__law_requirement, F__law_requirement⟩ := T.d__law_requirement
  have G__law_requirement := ok__law_requirement (P := P) (w := w) (base := base) T F__law_requirement
  have k__law_requirement := F__law_requirement.kp
  have b__law_requirement := bi__law_requirement F__law_requirement
  obtain ⟨fd__law_draw, F__law_draw⟩ := T.d__law_draw
  have G__law_draw := ok__law_draw (P := P) (w := w) (base := base) T F__law_draw
  have k__law_draw := F__law_draw.kp
  have b__law_draw := bi__law_draw F__law_draw
  refine F.ok sc__law_rows (fun vs H Q E h => ?len) (fun cdv A outer s H vs Q E hr h => ?body)
  case len => obtain ⟨a, b, n, ns, rfl, hw, hn, hb, nb, hN, k⟩ := h; rfl
  case body =>
  obtain ⟨a, b, n, ns, rfl, hw, hn, hb, nb, hN, k⟩ := h
  have hu := hu_of hr
  refine ⟨_, PSs.nox (pss_one (ps_ret (pe_lc (own := [("_law_k", 3)]) rfl sc__law_rows.nd (pi_range1 rfl T.n_range (pa_cons (pe_call G__law_draw (hr.mono (by first | decide | omega)) rfl T.g__law_draw k__law_draw b__law_draw .nil pass0 (pa_cons (pv 0) (pa_cons (pe_op op_add (pv 2) pe_int) pa_nil))) pa_nil)) (blkOk_by (own := [("_law_k", 3)]) (N := N__law_rows) (sc := defScope s__law_rows) (by decide +kernel)) (fun _ _ _ _ _ => (pg_name (i := 3) sc__law_rows.nd rfl (Or.inl rfl))) (fun _ _ _ _ _ => pts_nil) (fun _ _ _ _ _ => (pe_call G__law_requirement (hr.mono (by first | decide | omega)) rfl T.g__law_requirement k__law_requirement b__law_requirement .nil pass0 (pa_cons (pv 0) (pa_cons (pv 1) pa_nil))))))), ?_⟩
  refine ⟨_, rfl, _, rfl, _, _, rfl, rfl, a, n, 9, rfl, hw, by omega, by decide, by decide, fun c u n1 c0 c1 hn1 hu1 => ?_⟩
  have w1 := well_upd (H := H) (a := a) hu1
  have K1 : Keep a H (upd H a u) := Keep.at_
  have b1 : upd H a u b = some (.lst (ns.map V.str)) := K1 _ _ nb hb
  generalize upd H a u = H1 at w1 K1 b1 ⊢
  refine ⟨c, rfl, by omega, by omega, fun D hD => ?_⟩
  have nD : D ≠ a := well_ne3 w1 hD
  refine lc_range (lo := 0) (n := c.toNat) (fun i H' => Keep a H1 H' ∧ ∃ (n' : Nat) (ps : List Addr) (rows : List Row), WellAt H' a n' ∧ n' ≤ n + 1 + 3 * i ∧ H' D = some (.lst (ps.map V.ref)) ∧ Paired (RowAt H') ps rows ∧ rows.length = i ∧ ∀ r ∈ rows, r ∈ allRows)
    ⟨Keep.new hD, n1, [], [], well_new w1 hD, by omega, upd_same, .nil, rfl, fun r hr => by cases hr⟩ ?_ ?_
  · rintro i H2 hi ⟨K2, n2, ps, rows, w2, hn2, gD, hp, lr, hr2⟩
    refine ⟨rfl, yes_ ?_⟩
    refine iteT ?_
    refine ⟨_, rfl, _, rfl, a, b, n2, ns, rfl, w2, by omega, K2 _ _ nb b1, nb, hN, fun p r H3 n3 hrm hr3 K3 w3 hn3 => ?_⟩
    have gD3 := K3 _ _ nD gD
    have lp := paired_len hp
    refine ⟨_, gD3, small1000 (by rw [List.length_map, lp]; omega), fun b o hb hbo => ?_, n3, ps ++ [p], rows ++ [r], ?_, by omega, ?_, ?_, by rw [List.length_append, lr]; rfl, fun q hq => ?_⟩
    · rw [upd_ne (ne_of_none hbo hD)]; exact K3 _ _ hb (K2 _ _ hb hbo)
    · obtain ⟨v, hv, o⟩ := w3; exact ⟨v, by rw [upd_ne nD.symm]; exact hv, o⟩
    · rw [upd_same, List.map_append]; rfl
    · have up : ∀ (x : Addr) (q : Row), RowAt H3 x q → RowAt (upd H3 D (.lst (ps.map V.ref ++ [.ref p]))) x q := fun x q hq => by
        unfold RowAt at hq ⊢
        rw [upd_ne (ne_of hq gD3 fun z => by cases z)]; exact hq
      exact paired_snoc (up _ _ hr3) (Paired.mono (fun x q hq => up x q (K3 _ _ (well_ne w2 hq fun _ z => by cases z) hq)) hp)
    · rcases List.mem_append.mp hq with hq | hq
      · exact hr2 q hq
      · rw [List.mem_singleton.mp hq]; exact hrm
  · rintro H2 ⟨K2, n2, ps, rows, w2, hn2, gD, hp, lr, hr2⟩
    exact k D rows H2 n2 ⟨by omega, hr2⟩ ⟨ps, gD, hp⟩ nD (K1.trans K2) w2 (by omega)

def marks : List (Key × V) := [(Sum.inr "is", .str "="), (Sum.inr "not", .str "!="), (Sum.inr "there", .str ""), (Sum.inr "missing", .str "")]
theorem marks_at (vb : Verb) : valV (mergeK [] marks) (Sum.inr (vT vb)) = some (.str (markT vb)) := by cases vb <;> decide +kernel
theorem pre_at (vb : Verb) : strRep "!" (if decide (V.str (vT vb) = V.str "missing") = true then 1 else 0) = preT vb := by cases vb <;> decide +kernel
theorem pre_len (vb : Verb) : (preT vb).length ≤ 1 := by cases vb <;> decide +kernel
theorem mark_len (vb : Verb) : (markT vb).length ≤ 2 := by cases vb <;> decide +kernel
theorem len_app (x y : Str) : (x ++ y).length = x.length + y.length := strLen_append x y
def sp__law_text (K : PySem.W.Frag) : Sp := fun vs H Q _ => ∃ (L : Addr) (rows : List Row), vs = [.ref L] ∧ RowsAt H L rows ∧ Rows8 rows ∧ ∀ H', Same H H' → Q (.str (selT rows)) H'
theorem ok__law_text {P : Program} {w : World} {K : PySem.W.Frag} {mg : Str → Option Value} {base : Heap} {fd : FuncData} (T : Txt K mg) (F : FnP K "_law_text" s__law_text [] fd) : FnOk P w K mg base CX0 1 (He.ga K "_law_text") fd ps__law_text (sp__law_text K) := by
  refine F.ok sc__law_text (fun vs H Q E h => ?len) (fun cdv A outer s H vs Q E hr h => ?body)
  case len => obtain ⟨L, rows, rfl, ⟨ps, gL, hp⟩, h8, k⟩ := h; rfl
  case body =>
  obtain ⟨L, rows, rfl, ⟨ps, gL, hp⟩, h8, k⟩ := h
  have hu := hu_of hr
  refine ⟨_, PSs.nox (pss_cons (ps_set (i := 1) sc__law_text.nd rfl (Or.inl rfl) (pe_lst pa_nil))
    (pss_cons (ps_for PassesOwn.never rfl (pi_list (pv 0)) (pg_tup rfl (pgs_cons (pg_name (i := 2) sc__law_text.nd rfl (Or.inl rfl)) (pgs_cons (pg_name (i := 3) sc__law_text.nd rfl (Or.inl rfl)) (pgs_cons (pg_name (i := 4) sc__law_text.nd rfl (Or.inl rfl)) pgs_nil))))
      (pss_cons (ps_set (i := 5) sc__law_text.nd rfl (Or.inl rfl) (pe_dget hu (pe_disp (pps_cons pe_str pe_str (pps_cons pe_str pe_str (pps_cons pe_str pe_str (pps_cons pe_str pe_str pps_nil)))) (by rfl) (by rfl) (fun z => by cases z) (by decide)) (pv 3) (fun _ _ => rfl)))
        (pss_one (ps_expr (pe_bm PySem.F.plainAttrs_list PySem.F.slot_list_append PySem.F.type_list_append mt_append (pv 1) (pa_cons (pe_op op_add_str (pe_op op_add_str (pe_op op_add_str (pe_op op_rep_str pe_str (pe_callTy call_int1 (by rfl) T.n_int (by decide +kernel) (pa_cons (pe_cmpR op_eq (pv 3) pe_str (nomark _)) pa_nil))) (pv 2)) (pv 5)) (pv 4)) pa_nil))))))
    (pss_one (ps_ret (pe_join pe_str (pv 1)))))), ?_⟩
  have lp := paired_len hp
  refine ⟨smallN (by show 0 ≤ 1000; decide), fun F hF => ?_⟩
  have S0 := Same.new (u := .lst []) hF
  refine ⟨_, rfl, L, rfl, ⟨_, SqL.of (S0 _ _ gL)⟩, for_list (K := K) (a := L) (xs := ps.map V.ref) (fun i σ H' => ∃ v2 v3 v4 v5 : Option V, σ = [some (.ref L), some (.ref F), v2, v3, v4, v5] ∧ Same H H' ∧ H' F = some (.lst ((rows.take i).map fun r => V.str (rowT r))))
    ⟨_, _, _, _, rfl, S0, upd_same⟩ (fun i σ H' _ ⟨_, _, _, _, _, S, _⟩ => SqL.of (S _ _ gL)) ?_ ?_⟩
  · rintro i x σ H1 hx ⟨v2, v3, v4, v5, rfl, S1, gF⟩
    rw [List.getElem?_map] at hx
    obtain ⟨p, ep, rfl⟩ := Option.map_eq_some_iff.mp hx
    obtain ⟨r, er, hr1⟩ := paired_at hp ep
    have f := row_f (h8.2 r (mem_at er))
    refine ⟨p, _, rfl, SqT.of (S1 _ _ hr1), rfl, _, _, rfl, _, _, rfl, _, _, rfl, rfl, ?_⟩
    intro p2 q2
    refine ⟨upd_same, marks, rfl, by decide, ?_⟩
    rw [upd_upd]
    have S2 := Same.new (u := .dK (mergeK [] marks)) q2
    have g2 : (upd H1 p2 (.dK (mergeK [] marks))) p2 = _ := upd_same
    generalize upd H1 p2 (.dK (mergeK [] marks)) = H2 at S2 g2 ⊢
    have hg : DGet H2 p2 (.str (vT r.vb)) (some (.str (markT r.vb))) := by
      have := DGet.k (k := Sum.inr (vT r.vb)) g2
      rw [marks_at] at this
      exact this
    refine ⟨_, rfl, p2, _, rfl, hg, ?_⟩
    have gF2 := S2 _ _ gF
    have l1 := pre_len r.vb
    have l2 := mark_len r.vb
    have l3 := f.ln
    have l4 := f.lv
    refine ⟨_, rfl, .inl ⟨rfl, _, SqL.of gF2⟩, ?_⟩
    refine ⟨_, rfl, rfl, .inr ⟨_, rfl, _, _, rfl, rfl, (by decide), (by split <;> decide), (by split <;> decide), ?_⟩⟩
    rw [pre_at]
    refine ⟨_, rfl, _, _, rfl, rfl, smallN (by omega), _, rfl, _, _, rfl, rfl, smallN (by rw [len_app]; omega), _, rfl, _, _, rfl, rfl, smallN (by rw [len_app, len_app]; omega), ?_⟩
    refine ⟨F, _, _, rfl, rfl, gF2, small1000 (by rw [List.length_map, List.length_take]; have := h8.1; omega), ?_⟩
    refine ⟨_, _, _, _, rfl, fun b o hb => ?_, ?_⟩
    · rw [upd_ne (ne_of_none hb hF)]; exact S2 _ _ (S1 b o hb)
    · rw [upd_same, get_take er, List.map_append]; rfl
  · rintro σ H1 ⟨v2, v3, v4, v5, rfl, S1, gF⟩
    rw [List.length_map, lp, List.take_length] at gF
    have gF2 : H1 F = some (.lst ((rows.map rowT).map V.str)) := by rw [gF, List.map_map]; rfl
    refine ⟨⟨_, rfl⟩, _, rfl, _, F, rows.map rowT, rfl, rfl, .inl (SqL.of gF2), ?_, k H1 S1⟩
    have q : ∀ l : List Row, (∀ r ∈ l, r ∈ allRows) → ((l.map rowT).map (·.length)).sum ≤ l.length * 50 := fun l => by
      induction l with
      | nil => intro _; exact Nat.le_refl 0
      | cons r l ih =>
        intro h
        have h1 := ih fun z hz => h z (List.mem_cons_of_mem _ hz)
        have h2 := (row_f (h r (List.mem_cons_self ..))).lt
        rw [List.map_cons, List.map_cons, List.sum_cons, List.length_cons]
        omega
    have q1 := q rows h8.2
    have q2 : (",":Str).length = 1 := by decide +kernel
    rw [List.length_map, q2]
    have := h8.1
    omega
def sp__law_fulfils (K : PySem.W.Frag) : Sp := fun vs H Q _ => ∃ (L d : Addr) (rows : List Row) (kvs : List (Str × Str)), vs = [.ref L, .ref d] ∧ RowsAt H L rows ∧ H d = some (.dK (labD kvs)) ∧ Q (.bl (fulAll rows kvs)) H
theorem ok__law_fulfils {P : Program} {w : World} {K : PySem.W.Frag} {mg : Str → Option Value} {base : Heap} {fd : FuncData} (T : Txt K mg) (F : FnP K "_law_fulfils" s__law_fulfils [] fd) : FnOk P w K mg base CX0 1 (He.ga K "_law_fulfils") fd ps__law_fulfils (sp__law_fulfils K) := by
  refine F.ok sc__law_fulfils (fun vs H Q E h => ?len) (fun cdv A outer s H vs Q E hr h => ?body)
  case len => obtain ⟨L, d, rows, kvs, rfl, ⟨ps, gL, hp⟩, hd, k⟩ := h; rfl
  case body =>
  obtain ⟨L, d, rows, kvs, rfl, ⟨ps, gL, hp⟩, hd, k⟩ := h
  have hu := hu_of hr
  refine ⟨_, PSs.nox (pss_cons (ps_for PassesOwn.never rfl (pi_list (pv 0)) (pg_tup rfl (pgs_cons (pg_name (i := 2) sc__law_fulfils.nd rfl (Or.inl rfl)) (pgs_cons (pg_name (i := 3) sc__law_fulfils.nd rfl (Or.inl rfl)) (pgs_cons (pg_name (i := 4) sc__law_fulfils.nd rfl (Or.inl rfl)) pgs_nil))))
      (pss_cons (ps_if (PW.pt (pw_or (PW.pt (pw_and (pt_cmpR op_eq (pv 3) pe_str (nomark _)) (pw_and1 (pt_cmpR op_ne (pe_dget1 hu (pv 1) (pv 2) ⟨rfl, rfl, rfl, rfl⟩) (pv 4) (nomark _))))) (pw_or1 (PW.pt (pw_and (pt_cmpR op_eq (pv 3) pe_str (nomark _)) (pw_and1 (pt_cmpR op_eq (pe_dget1 hu (pv 1) (pv 2) ⟨rfl, rfl, rfl, rfl⟩) (pv 4) (nomark _)))))))) (pss_one (ps_ret pe_bl)) pss_nil)
        (pss_one (ps_if (PW.pt (pw_or (PW.pt (pw_and (pt_cmpR op_eq (pv 3) pe_str (nomark _)) (pw_and1 (pt_cmp (pc_dnotin hu (pv 2) (pv 1)))))) (pw_or1 (PW.pt (pw_and (pt_cmpR op_eq (pv 3) pe_str (nomark _)) (pw_and1 (pt_cmp (pc_din hu (pv 2) (pv 1))))))))) (pss_one (ps_ret pe_bl)) pss_nil))))
    (pss_one (ps_ret pe_bl))), ?_⟩
  have lp := paired_len hp
  refine ⟨_, rfl, L, rfl, ⟨_, SqL.of gL⟩, for_list (K := K) (a := L) (xs := ps.map V.ref) (fun i σ H' => ∃ v2 v3 v4 : Option V, σ = [some (.ref L), some (.ref d), v2, v3, v4] ∧ H' = H ∧ fulAll (rows.take i) kvs = true)
    ⟨_, _, _, rfl, rfl, rfl⟩ (fun i σ H' _ ⟨_, _, _, _, e, _⟩ => by rw [e]; exact SqL.of gL) ?_ ?_⟩
  · rintro i x σ H' hx ⟨v2, v3, v4, rfl, rfl, hall⟩
    rw [List.getElem?_map] at hx
    obtain ⟨p, ep, rfl⟩ := Option.map_eq_some_iff.mp hx
    obtain ⟨r, er, hr1⟩ := paired_at hp ep
    have hg : DGet H' d (.str r.nm) (look kvs r.nm) := DGet.k (k := Sum.inr r.nm) hd
    have good : fulB r (look kvs r.nm) = true → fulAll (rows.take (i + 1)) kvs = true := fun e => by
      unfold fulAll at hall ⊢
      rw [get_take er, List.all_append, hall, List.all_cons, e]; rfl
    have bad : fulB r (look kvs r.nm) = false → Q (.bl false) H' := fun e => by
      have e2 : fulAll rows kvs = false := by
        unfold fulAll
        rw [List.all_eq_false]
        exact ⟨r, mem_at er, by rw [e]; simp⟩
      rw [e2] at k
      exact k
    have hs := @look_str kvs r.nm
    have isd : IsD H' d := .inl ⟨_, .inl hd⟩
    generalize look kvs r.nm = o at hg hs good bad
    refine ⟨p, _, rfl, SqT.of hr1, rfl, _, _, rfl, _, _, rfl, _, _, rfl, rfl, ?_⟩
    have sc : scal (o.getD .non) (.str r.vl) = true := by
      cases o with
      | none => rfl
      | some v => obtain ⟨x, rfl⟩ := hs rfl; rfl
    have deq : decide (o.getD V.non = V.str r.vl) = decide (o = some (V.str r.vl)) := by
      cases o with
      | none => rw [decide_eq_false (show ¬ (none : Option V) = some (V.str r.vl) from fun z => by cases z), decide_eq_false (show ¬ (none : Option V).getD V.non = V.str r.vl from fun z => by cases z)]
      | some v => obtain ⟨x, rfl⟩ := hs rfl; rw [dec_some]; rfl
    refine ⟨_, rfl, rfl, _, rfl, ?_⟩
    unfold fulB at good bad
    cases evb : r.vb with
    | is =>
      rw [evb] at good bad
      dsimp only at good bad
      refine iteT ⟨_, rfl, d, rfl, isd, _, rfl, o, hg, _, rfl, sc, _, rfl, ?_⟩
      rw [deq]
      cases e : decide (o = some (V.str r.vl)) with
      | false => exact iteT (bad e)
      | true =>
        refine iteF ⟨_, rfl, rfl, _, rfl, iteF (iteF ?_)⟩
        refine ⟨_, rfl, rfl, _, rfl, iteF ⟨_, rfl, rfl, _, rfl, iteF (iteF ?_)⟩⟩
        exact ⟨_, _, _, rfl, rfl, good e⟩
    | not =>
      rw [evb] at good bad
      dsimp only at good bad
      refine iteF ⟨_, rfl, rfl, _, rfl, ?_⟩
      refine iteT ⟨_, rfl, d, rfl, isd, _, rfl, o, hg, _, rfl, sc, _, rfl, ?_⟩
      rw [deq]
      cases e : decide (o = some (V.str r.vl)) with
      | true => exact iteT (bad (by rw [e]; rfl))
      | false =>
        refine iteF ?_
        refine ⟨_, rfl, rfl, _, rfl, iteF ⟨_, rfl, rfl, _, rfl, iteF (iteF ?_)⟩⟩
        exact ⟨_, _, _, rfl, rfl, good (by rw [e]; rfl)⟩
    | there =>
      rw [evb] at good bad
      dsimp only at good bad
      refine iteF ⟨_, rfl, rfl, _, rfl, iteF (iteF ?_)⟩
      refine ⟨_, rfl, rfl, _, rfl, iteT ⟨_, rfl, _, rfl, d, o, rfl, hg, _, rfl, ?_⟩⟩
      cases e : o.isSome with
      | false => exact iteT (bad e)
      | true => exact iteF ⟨_, rfl, rfl, _, rfl, iteF (iteF ⟨_, _, _, rfl, rfl, good e⟩)⟩
    | missing =>
      rw [evb] at good bad
      dsimp only at good bad
      refine iteF ⟨_, rfl, rfl, _, rfl, iteF (iteF ?_)⟩
      refine ⟨_, rfl, rfl, _, rfl, iteF ⟨_, rfl, rfl, _, rfl, iteT ⟨_, rfl, _, rfl, d, o, rfl, hg, _, rfl, ?_⟩⟩⟩
      cases e : o.isSome with
      | true => exact iteT (bad (by rw [e]; rfl))
      | false => exact iteF ⟨_, _, _, rfl, rfl, good (by rw [e]; rfl)⟩
  · rintro σ H' ⟨v2, v3, v4, rfl, rfl, hall⟩
    rw [List.length_map, lp, List.take_length] at hall
    rw [hall] at k
    exact k

/-! ### tables of labels that are drawn -/
structure LabIn (kvs : List (Str × Str)) : Prop where
  few : kvs.length ≤ 4
  mem : ∀ p ∈ kvs, p.1 ∈ names4 ∧ p.2 ∈ vals8
  nd : (kvs.map (·.1)).Nodup
theorem LabIn.ok {kvs : List (Str × Str)} (h : LabIn kvs) : LabOk kvs := by
  refine ⟨by have := h.few; omega, fun p hp => ?_, h.nd⟩
  obtain ⟨h1, h2⟩ := h.mem p hp
  have f := row_f (row_mem h1 h2).1
  exact ⟨f.un, f.lb, Nat.le_trans f.ln (by decide), Nat.le_trans f.lv (by decide)⟩
theorem er_facts {α : Type} : ∀ {ls : List α} {k : Nat} {x : α}, ls[k]? = some x → ls.Nodup → (∀ y ∈ ls.eraseIdx k, y ∈ ls ∧ y ≠ x) ∧ (ls.eraseIdx k).Nodup ∧ (ls.eraseIdx k).length + 1 = ls.length
  | [], k, x, h, _ => by simp at h
  | a :: r, 0, x, h, nd => by
    have e : a = x := by simpa using h
    subst e
    obtain ⟨n1, n2⟩ := List.nodup_cons.mp nd
    exact ⟨fun y hy => ⟨List.mem_cons_of_mem _ hy, fun z => n1 (z ▸ hy)⟩, n2, rfl⟩
  | a :: r, k + 1, x, h, nd => by
    obtain ⟨n1, n2⟩ := List.nodup_cons.mp nd
    have h' : r[k]? = some x := by simpa using h
    obtain ⟨i1, i2, i3⟩ := er_facts h' n2
    have hx : x ∈ r := List.mem_of_getElem? h'
    refine ⟨fun y hy => ?_, ?_, ?_⟩
    · rcases List.mem_cons.mp (show y ∈ a :: r.eraseIdx k from hy) with e | hy
      · subst e; exact ⟨List.mem_cons_self .., fun z => n1 (z ▸ hx)⟩
      · exact ⟨List.mem_cons_of_mem _ (i1 y hy).1, (i1 y hy).2⟩
    · exact List.nodup_cons.mpr ⟨fun z => n1 (i1 a z).1, i2⟩
    · show (r.eraseIdx k).length + 1 + 1 = r.length + 1
      omega
theorem map_er {α β : Type} (f : α → β) : ∀ (ls : List α) (k : Nat), (ls.map f).eraseIdx k = (ls.eraseIdx k).map f
  | [], _ => rfl
  | _ :: _, 0 => rfl
  | a :: r, k + 1 => by
    show f a :: (r.map f).eraseIdx k = f a :: (r.eraseIdx k).map f
    rw [map_er f r k]
theorem look_none : ∀ {kvs : List (Str × Str)} {n : Str}, n ∉ kvs.map (·.1) → look kvs n = none
  | [], _, _ => rfl
  | p :: r, n, h => by
    unfold look labD
    rw [List.map_cons, valV_neg (p := (Sum.inr p.1, V.str p.2)) (fun e => h (by injection e with e; rw [← e]; simp))]
    exact look_none (kvs := r) fun z => h (by rw [List.map_cons]; exact List.mem_cons_of_mem _ z)
theorem seq_at {n j : Nat} (h : j < n) : seqIndex? (j : Int) n = some j := by
  refine (ixN_seq (n := n) (i := (j : Int)) (j := j) ?_).1
  unfold ixN
  rw [if_pos (by omega), if_pos (by omega)]
  rfl
def sp__law_labels (K : PySem.W.Frag) : Sp := fun vs H Q _ => ∃ (a b : Addr) (n : Nat) (ns : List Str), vs = [.ref a, .ref b] ∧ WellAt H a n ∧ n < 700000 ∧ H b = some (.lst (ns.map V.str)) ∧ b ≠ a ∧ Names ns ∧
  ∀ (d : Addr) (kvs : List (Str × Str)) (H' : Hp) (n' : Nat), LabIn kvs → H' d = some (.dK (labD kvs)) → Keep a H H' → WellAt H' a n' → n' ≤ n + 10 → Q (.ref d) H'
theorem ok__law_labels {P : Program} {w : World} {K : PySem.W.Frag} {mg : Str → Option Value} {base : Heap} {fd : FuncData} (T : Txt K mg) (F : FnP K "_law_labels" s__law_labels [] fd) : FnOk P w K mg base CX0 4 (He.ga K "_law_labels") fd ps__law_labels (sp__law_labels K) := by
  obtain ⟨fd__law_draw, F__law_draw⟩ := T.d__law_draw
  have G__law_draw := ok__law_draw (P := P) (w := w) (base := base) T F__law_draw
  have k__law_draw := F__law_draw.kp
  have b__law_draw := bi__law_draw F__law_draw
  obtain ⟨fd__law_value, F__law_value⟩ := T.d__law_value
  have G__law_value := ok__law_value (P := P) (w := w) (base := base) T F__law_value
  have k__law_value := F__law_value.kp
  have b__law_value := bi__law_value F__law_value
  refine F.ok sc__law_labels (fun vs H Q E h => ?len) (fun cdv A outer s H vs Q E hr h => ?body)
  case len => obtain ⟨a, b, n, ns, rfl, hw, hn, hb, nb, hN, k⟩ := h; rfl
  case body =>
  obtain ⟨a, b, n, ns, rfl, hw, hn, hb, nb, hN, k⟩ := h
  have hu := hu_of hr
  refine ⟨_, PSs.nox (pss_cons (ps_par (i := 2) (j := 3) (by rfl) sc__law_labels.nd rfl rfl (by decide) rfl rfl (pa_cons (pe_callTy call_list_of (by rfl) T.n_list (by decide +kernel) (pa_cons (pv 1) pa_nil)) (pa_cons pe_dnewK pa_nil)) (by rfl))
    (pss_cons (ps_for PassesOwn.never rfl (pi_range1 rfl T.n_range (pa_cons (pe_call G__law_draw (hr.mono (by first | decide | omega)) rfl T.g__law_draw k__law_draw b__law_draw .nil pass0 (pa_cons (pv 0) (pa_cons (pe_op op_add (pe_callB call_len_seq (by rfl) T.n_len (by decide +kernel) (pa_cons (pv 1) pa_nil)) pe_int) pa_nil))) pa_nil)) (pg_name (i := 4) sc__law_labels.nd rfl (Or.inl rfl))
      (pss_one (ps_dput hu (pv 3) (pe_bm PySem.F.plainAttrs_list PySem.F.slot_list_pop PySem.F.type_list_pop mt_popAt (pv 2) (pa_cons (pe_call G__law_draw (hr.mono (by first | decide | omega)) rfl T.g__law_draw k__law_draw b__law_draw .nil pass0 (pa_cons (pv 0) (pa_cons (pe_callB call_len_seq (by rfl) T.n_len (by decide +kernel) (pa_cons (pv 2) pa_nil)) pa_nil))) pa_nil)) (pe_call G__law_value (hr.mono (by first | decide | omega)) rfl T.g__law_value k__law_value b__law_value .nil pass0 (pa_cons (pv 0) pa_nil)) rfl)))
    (pss_one (ps_ret (pv 3))))), ?_⟩
  have hN4 : ns.length ≤ 4 := hN.1
  refine ⟨_, rfl, b, _, rfl, .inl (SqL.of hb), fun l1 e1 => ?_⟩
  have S1 := Same.new (u := .lst (ns.map V.str)) e1
  have g1 : (upd H l1 (.lst (ns.map V.str))) l1 = _ := upd_same
  have w1 := well_new (u := .lst (ns.map V.str)) hw e1
  have n1 : l1 ≠ a := well_ne3 hw e1
  generalize upd H l1 (.lst (ns.map V.str)) = H1 at S1 g1 w1 ⊢
  intro d e2
  have S2 := Same.new (u := .dK []) e2
  have g2 : (upd H1 d (.dK [])) d = _ := upd_same
  have w2 := well_new (u := .dK []) w1 e2
  generalize upd H1 d (.dK []) = H2 at S2 g2 w2 ⊢
  have nd2 : d ≠ a := well_ne w2 g2 fun _ z => by cases z
  refine ⟨_, _, rfl, ?_⟩
  refine ⟨_, rfl, _, rfl, b, _, rfl, .inl (SqL.of (S2 _ _ (S1 _ _ hb))), _, _, rfl, rfl, a, n, _, rfl, w2, by omega, (by omega), (by rw [List.length_map]; have := hN.1; omega), fun c u n3 c0 c1 hn3 hu3 => ?_⟩
  rw [List.length_map] at c1
  have w3 := well_upd (H := H2) (a := a) hu3
  have K3 : Keep a H (upd H2 a u) := (Keep.of (S1.trans S2)).trans Keep.at_
  have g31 : upd H2 a u l1 = _ := Keep.at_ _ _ n1 (S2 _ _ g1)
  have g3d : upd H2 a u d = _ := Keep.at_ _ _ nd2 g2
  generalize upd H2 a u = H3 at w3 K3 g31 g3d ⊢
  refine ⟨c, rfl, by omega, by omega, for_range (lo := 0) (n := c.toNat) (fun i σ H' => ∃ (v4 : Option V) (n' : Nat) (ls : List Str) (kvs : List (Str × Str)), σ = [some (.ref a), some (.ref b), some (.ref l1), some (.ref d), v4] ∧ Keep a H H' ∧ WellAt H' a n' ∧ n' ≤ n + 1 + 2 * i ∧
      H' l1 = some (.lst (ls.map V.str)) ∧ H' d = some (.dK (labD kvs)) ∧ ls.length + i = ns.length ∧ kvs.length = i ∧ ls.Nodup ∧ (∀ x ∈ ls, x ∈ names4 ∧ x ∉ kvs.map (·.1)) ∧ (∀ p ∈ kvs, p.1 ∈ names4 ∧ p.2 ∈ vals8) ∧ (kvs.map (·.1)).Nodup)
    ⟨_, n3, ns, [], rfl, K3, w3, by omega, g31, g3d, rfl, rfl, hN.2.2.1, (fun x hx => ⟨hN.2.2.2 x hx, by simp⟩), (fun p hp => by cases hp), List.nodup_nil⟩ ?_ ?_⟩
  · rintro i σ H4 hi ⟨v4, n4, ls, kvs, rfl, K4, w4, hn4, g4l, g4d, ll, lk, ndl, hl, hk, ndk⟩
    refine ⟨_, rfl, a, n4, rfl, w4, by have := hN.1; omega, fun z H5 n5 hz K5 w5 hn5 => ?_⟩
    have g5l := K5 _ _ n1 g4l
    have g5d := K5 _ _ nd2 g4d
    have lpos : 0 < ls.length := by omega
    refine ⟨_, rfl, _, rfl, .inl ⟨rfl, _, SqL.of g5l⟩, _, rfl, _, rfl, l1, _, rfl, .inl (SqL.of g5l), a, n5, _, rfl, w5, by have := hN.1; omega, (by rw [List.length_map]; omega), (by rw [List.length_map]; have := hN.1; omega), fun r u6 n6 r0 r1 hn6 hu6 => ?_⟩
    rw [List.length_map] at r1
    have w6 := well_upd (H := H5) (a := a) hu6
    have K6 := K4.trans (K5.trans (Keep.at_ (u := u6)))
    have g6l : upd H5 a u6 l1 = _ := Keep.at_ _ _ n1 g5l
    have g6d : upd H5 a u6 d = _ := Keep.at_ _ _ nd2 g5d
    generalize upd H5 a u6 = H6 at w6 K6 g6l g6d ⊢
    obtain ⟨j, rfl⟩ := Int.eq_ofNat_of_zero_le r0
    have hj : j < ls.length := by omega
    obtain ⟨nm, ej⟩ : ∃ nm, ls[j]? = some nm := ⟨_, List.getElem?_eq_getElem hj⟩
    have ej2 : (ls.map V.str)[j]? = some (.str nm) := by rw [List.getElem?_map, ej]; rfl
    obtain ⟨f1, f2, f3⟩ := er_facts ej ndl
    obtain ⟨m1, m2⟩ := hl nm (mem_at ej)
    refine ⟨l1, _, _, j, _, rfl, rfl, g6l, by omega, by omega, (by rw [List.length_map]; exact seq_at hj), ej2, ?_⟩
    rw [map_er]
    have nld : d ≠ l1 := ne_of g6d g6l fun z => by cases z
    have g7d : upd H6 l1 (.lst ((ls.eraseIdx j).map V.str)) d = some (.dK (labD kvs)) := by rw [upd_ne nld]; exact g6d
    refine ⟨d, _, rfl, DPut.k (k := Sum.inr nm) g7d (small1000 (by unfold labD; rw [List.length_map, lk]; have := hN.1; omega)), ?_⟩
    have e7 : putK (labD kvs) (Sum.inr nm) (.str z) = labD (kvs ++ [(nm, z)]) := by
      rw [putK_new _ (look_none m2)]
      unfold labD
      rw [List.map_append]; rfl
    rw [e7]
    refine ⟨_, n6, ls.eraseIdx j, kvs ++ [(nm, z)], rfl, fun b' o hb' hbo => ?_, ?_, by omega, ?_, upd_same, by omega, by rw [List.length_append, lk]; rfl, f2, fun x hx => ?_, fun p hp => ?_, ?_⟩
    · have q1 : b' ≠ l1 := fun z => by
        have q := S1.free e2
        subst z
        rw [hbo] at e1
        cases e1
      have q2 : b' ≠ d := fun z => by
        subst z
        have q := S1 _ _ hbo
        rw [q] at e2
        cases e2
      rw [upd_ne q2, upd_ne q1]
      exact K6 _ _ hb' hbo
    · obtain ⟨v, hv, o⟩ := w6
      exact ⟨v, by rw [upd_ne nd2.symm, upd_ne n1.symm]; exact hv, o⟩
    · rw [upd_ne nld.symm, upd_same]
    · obtain ⟨x1, x2⟩ := f1 x hx
      refine ⟨(hl x x1).1, ?_⟩
      rw [List.map_append, List.mem_append]
      rintro (q | q)
      · exact (hl x x1).2 q
      · exact x2 (List.mem_singleton.mp q)
    · rcases List.mem_append.mp hp with hp | hp
      · exact hk p hp
      · rw [List.mem_singleton.mp hp]; exact ⟨m1, hz⟩
    · rw [List.map_append]
      exact List.nodup_append.mpr ⟨ndk, by simp, fun x hx y hy => by
        have : y = nm := List.mem_singleton.mp hy
        subst this
        exact fun e => m2 (e ▸ hx)⟩
  · rintro σ H4 ⟨v4, n4, ls, kvs, rfl, K4, w4, hn4, g4l, g4d, ll, lk, ndl, hl, hk, ndk⟩
    exact ⟨_, rfl, k d kvs H4 n4 ⟨by have := hN.1; omega, hk, ndk⟩ g4d K4 w4 (by have := hN.1; omega)⟩

/-! ### the mathematics of the end -/
theorem merge_app : ∀ (l acc : List (Key × V)), ((acc ++ l).map (·.1)).Nodup → mergeK acc l = acc ++ l
  | [], acc, _ => by rw [List.append_nil]; rfl
  | p :: r, acc, h => by
    have e : valV acc p.1 = none := by
      cases q : valV acc p.1 with
      | none => rfl
      | some v =>
        exfalso
        have q1 := valV_any p.1 acc
        rw [q] at q1
        obtain ⟨z, hz, ez⟩ := List.any_eq_true.mp q1
        have ez := of_decide_eq_true ez
        rw [List.map_append, List.nodup_append] at h
        exact h.2.2 z.1 (List.mem_map_of_mem hz) p.1 (by simp) ez
    show mergeK (putK acc p.1 p.2) r = _
    rw [putK_new _ e, merge_app r _ (by rw [List.append_assoc]; exact h), List.append_assoc]; rfl
theorem nd_rev {α : Type} {l : List α} (h : l.Nodup) : l.reverse.Nodup := by
  unfold List.Nodup at h ⊢
  rw [List.pairwise_reverse]
  exact h.imp fun hn e => hn e.symm
theorem lab_keys (kvs : List (Str × Str)) : (labD kvs).map (·.1) = (kvs.map (·.1)).map Sum.inr := by
  unfold labD; rw [List.map_map, List.map_map]; rfl
theorem nd_inr {l : List Str} (h : l.Nodup) : (l.map (Sum.inr : Str → Key)).Nodup := by
  unfold List.Nodup at h ⊢
  rw [List.pairwise_map]
  exact h.imp fun hn e => hn (by injection e)
theorem merge_lab {kvs : List (Str × Str)} (h : (kvs.map (·.1)).Nodup) : mergeK [] (labD kvs).reverse = labD kvs.reverse := by
  rw [merge_app _ _ (by
    rw [List.nil_append, List.map_reverse, lab_keys]
    exact nd_rev (nd_inr h))]
  unfold labD
  rw [List.nil_append, List.map_reverse]
theorem look_mem : ∀ {kvs : List (Str × Str)} {p : Str × Str}, (kvs.map (·.1)).Nodup → p ∈ kvs → look kvs p.1 = some (.str p.2)
  | [], _, _, h => by cases h
  | q :: r, p, nd, h => by
    rw [List.map_cons, List.nodup_cons] at nd
    unfold look labD
    rw [List.map_cons]
    by_cases e : q.1 = p.1
    · have : p = q := by
        rcases List.mem_cons.mp h with z | z
        · exact z
        · exact absurd (e ▸ List.mem_map_of_mem z) nd.1
      subst this
      exact valV_pos rfl
    · rw [valV_neg (p := (Sum.inr q.1, V.str q.2)) (fun z => e (by injection z))]
      rcases List.mem_cons.mp h with z | z
      · exact absurd (by rw [z]) e
      · exact look_mem nd.2 z
theorem look_rev {kvs : List (Str × Str)} (nd : (kvs.map (·.1)).Nodup) (n : Str) : look kvs.reverse n = look kvs n := by
  by_cases h : n ∈ kvs.map (·.1)
  · obtain ⟨p, hp, rfl⟩ := List.mem_map.mp h
    rw [look_mem nd hp, look_mem (by rw [List.map_reverse]; exact nd_rev nd) (List.mem_reverse.mpr hp)]
  · rw [look_none h, look_none (by rw [List.map_reverse, List.mem_reverse]; exact h)]
theorem ful_rev {rows : List Row} {kvs : List (Str × Str)} (nd : (kvs.map (·.1)).Nodup) : fulAll rows kvs.reverse = fulAll rows kvs := by
  unfold fulAll
  congr 1
  funext r
  rw [look_rev nd]
theorem ful_rows_rev (rows : List Row) (kvs : List (Str × Str)) : fulAll rows.reverse kvs = fulAll rows kvs := by
  unfold fulAll; rw [List.all_reverse]
theorem ful_rows_two (rows : List Row) (kvs : List (Str × Str)) : fulAll (rows ++ rows) kvs = fulAll rows kvs := by
  unfold fulAll; rw [List.all_append, Bool.and_self]
/-! repr of a table -/
def labP (kvs : List (Str × Str)) : List (PyData × PyData) := kvs.map fun p => (.str p.1, .str p.2)
theorem labP_show : ∀ kvs : List (Str × Str), PyData.showableKv (labP kvs) = true
  | [] => by simp [labP, PyData.showableKv]
  | p :: r => by
    have := labP_show r
    simp only [labP, List.map_cons, PyData.showableKv, PyData.showable] at this ⊢
    simpa using this
theorem labP_depth : ∀ kvs : List (Str × Str), PyData.depthKv (labP kvs) = 0
  | [] => by simp [labP, PyData.depthKv]
  | p :: r => by
    have := labP_depth r
    simp only [labP, List.map_cons, PyData.depthKv, PyData.depth] at this ⊢
    rw [this]; rfl
theorem nm_repr : (names4.all fun n => decide ((reprText n).length ≤ 100)) = true := by decide +kernel
theorem vl_repr : (vals8.all fun n => decide ((reprText n).length ≤ 100)) = true := by decide +kernel
theorem labP_len : ∀ {kvs : List (Str × Str)}, (∀ p ∈ kvs, p.1 ∈ names4 ∧ p.2 ∈ vals8) → ((PyData.shownKv (labP kvs)).map (·.length)).sum ≤ kvs.length * 300 ∧ (PyData.shownKv (labP kvs)).length = kvs.length
  | [], _ => by simp [labP, PyData.shownKv]
  | p :: r, h => by
    obtain ⟨i1, i2⟩ := labP_len (kvs := r) fun z hz => h z (List.mem_cons_of_mem _ hz)
    obtain ⟨h1, h2⟩ := h p (List.mem_cons_self ..)
    have l1 := of_decide_eq_true (List.all_eq_true.mp nm_repr _ h1)
    have l2 := of_decide_eq_true (List.all_eq_true.mp vl_repr _ h2)
    simp only [labP, List.map_cons, PyData.shownKv, PyData.shown, List.sum_cons, List.length_cons, len_app] at i1 i2 ⊢
    have e : (": " : Str).length = 2 := by decide +kernel
    rw [e]
    omega
theorem lab_shw {K : PySem.W.Frag} {H : Hp} {d : Addr} {kvs : List (Str × Str)} (h : H d = some (.dK (labD kvs))) : Shw K H (.ref d) (.dict (labP kvs)) := by
  refine shw_dic h ?_ ?_
  · unfold labP labD; rw [List.map_map, List.map_map]; rfl
  · unfold labP labD
    rw [List.map_map, List.map_map]
    clear h
    induction kvs with
    | nil => exact .nil
    | cons p r ih => exact .cons (shw_flat (v := .str p.2) True.intro) ih
theorem lab_shown {kvs : List (Str × Str)} (h : LabIn kvs) : (PyData.dict (labP kvs)).showable = true ∧ (PyData.dict (labP kvs)).depth ≤ 60 ∧ (PyData.dict (labP kvs)).shown.length ≤ sizeLine := by
  obtain ⟨l1, l2⟩ := labP_len h.mem
  have l3 := dictText_len_le (PyData.shownKv (labP kvs))
  refine ⟨by simpa [PyData.showable] using labP_show kvs, by simp [PyData.depth, labP_depth], ?_⟩
  simp only [PyData.shown]
  rw [sizeLine_eq]
  have := h.few
  omega
/-! rows as data -/
def rowD (r : Row) : PyData := .tuple [.str r.nm, .str (vT r.vb), .str r.vl]
theorem row_ok : (allRows.all fun r => PyData.strOk r.nm && (PyData.strOk (vT r.vb) && PyData.strOk r.vl)) = true := by decide +kernel
theorem rows_lay : ∀ {rows : List Row}, (∀ r ∈ rows, r ∈ allRows) → PyData.canLayAll0 (rows.map rowD) = true ∧ PyData.depthAll (rows.map rowD) ≤ 1
  | [], _ => by simp [PyData.canLayAll0, PyData.depthAll]
  | r :: rs, h => by
    obtain ⟨i1, i2⟩ := rows_lay (rows := rs) fun z hz => h z (List.mem_cons_of_mem _ hz)
    have q := List.all_eq_true.mp row_ok r (h r (List.mem_cons_self ..))
    simp only [Bool.and_eq_true] at q
    obtain ⟨q1, q2, q3⟩ := q
    simp only [List.map_cons, rowD, PyData.canLayAll0, PyData.canLay0, PyData.depthAll, PyData.depth, q1, q2, q3]
    refine ⟨by simpa using i1, Nat.max_le.mpr ⟨by decide, i2⟩⟩
theorem rows_sh {rows : List Row} (h : ∀ r ∈ rows, r ∈ allRows) : SeqAt.shaped (.list (rows.map rowD)) = true := by
  obtain ⟨i1, i2⟩ := rows_lay h
  unfold SeqAt.shaped
  simp only [PyData.canLay0, PyData.depth, i1, Bool.true_and]
  exact decide_eq_true (by omega)
theorem rows_dp {K : PySem.W.Frag} {H : Hp} {L : Addr} {rows : List Row} (h : RowsAt H L rows) : Dp K H (.ref L) (.list (rows.map rowD)) := by
  obtain ⟨ps, gL, hp⟩ := h
  refine .lst (SqL.of gL) ?_
  clear gL
  induction hp with
  | nil => exact .nil
  | cons r t ih => exact .cons (.tup (SqT.of r) (.cons (.str _) (.cons (.str _) (.cons (.str _) .nil)))) ih
theorem rows_eqv {rows : List Row} (h : ∀ r ∈ rows, r ∈ allRows) : PyData.eqv (.list (rows.map rowD)) (.list (rows.map rowD)) = true := SeqAt.eqv_refl _ (SeqAt.canLay_of_shaped (rows_sh h))
theorem paired_rev {α β : Type} {F : α → β → Prop} : ∀ {xs : List α} {ys : List β}, Paired F xs ys → Paired F xs.reverse ys.reverse
  | _, _, .nil => .nil
  | _, _, .cons r t => by rw [List.reverse_cons, List.reverse_cons]; exact paired_snoc r (paired_rev t)
theorem paired_app {α β : Type} {F : α → β → Prop} : ∀ {xs xs' : List α} {ys ys' : List β}, Paired F xs ys → Paired F xs' ys' → Paired F (xs ++ xs') (ys ++ ys')
  | _, _, _, _, .nil, h => h
  | _, _, _, _, .cons r t, h => .cons r (paired_app t h)
theorem n10 : cutS "n0123456789" none (some 10) = ("n012345678" : Str) := by decide +kernel
theorem names_cut {r : Int} (h0 : 0 ≤ r) (h1 : r < 4) : ∃ ns, cutV (names4.map V.str) none (some (1 + r)) = ns.map V.str ∧ Names ns := by
  have : r = 0 ∨ r = 1 ∨ r = 2 ∨ r = 3 := by omega
  rcases this with rfl | rfl | rfl | rfl
  · exact ⟨names4.take 1, rfl, by decide, by decide, by decide +kernel, by simp [names4]⟩
  · exact ⟨names4.take 2, rfl, by decide, by decide, by decide +kernel, by simp [names4]⟩
  · exact ⟨names4.take 3, rfl, by decide, by decide, by decide +kernel, by simp [names4]⟩
  · exact ⟨names4.take 4, rfl, by decide, by decide, by decide +kernel, by simp [names4]⟩

def sp_law (K : PySem.W.Frag) : Sp := fun vs H Q _ => ∃ (a : Addr) (ns : List Int), vs = [.ref a] ∧ SqL K H a (ns.map V.int) ∧ ns.length ≤ 63 ∧ ∀ H', Q (.bl true) H'
theorem cut_mem {xs : List V} {lo hi : Option Int} {y : V} (h : y ∈ cutV xs lo hi) : y ∈ xs := List.mem_of_mem_drop (List.mem_of_mem_take h)
theorem cut_int {ns : List Int} {lo hi : Option Int} {x : V} (h : x ∈ cutV (ns.map V.int) lo hi) : ∃ i, x = .int i := by
  obtain ⟨i, _, rfl⟩ := List.mem_map.mp (cut_mem h)
  exact ⟨i, rfl⟩
theorem well_same {a : Addr} {n : Nat} {H H' : Hp} (w : WellAt H a n) (x : Same H H') : WellAt H' a n := by
  obtain ⟨u, hu, o⟩ := w; exact ⟨u, x _ _ hu, o⟩
theorem rows_keep {a : Addr} {n : Nat} {H H' : Hp} {L : Addr} {rows : List Row} (w : WellAt H a n) (x : Keep a H H') (nL : L ≠ a) (h : RowsAt H L rows) : RowsAt H' L rows := by
  obtain ⟨ps, h1, h2⟩ := h
  exact ⟨ps, x _ _ nL h1, Paired.mono (fun p r q => x _ _ (well_ne w q fun _ z => by cases z) q) h2⟩
/-- a new list that is then changed: all else stays -/
theorem same_grow {H H' : Hp} {L : Addr} {u : HO} (hL : H L = none) (s : Same H H') : Same H (upd H' L u) := fun b o hb => by rw [upd_ne (ne_of_none hb hL)]; exact s b o hb
theorem ok_law {P : Program} {w : World} {K : PySem.W.Frag} {mg : Str → Option Value} {base : Heap} {fd : FuncData} (T : Txt K mg) (F : FnP K "law" s_law [] fd) : FnG P w K mg base CX0 6 (He.ga K "law") fd ps_law (sp_law K) := by
  obtain ⟨fd__law_source, F__law_source⟩ := T.d__law_source
  have G__law_source := ok__law_source (P := P) (w := w) (base := base) T F__law_source
  have k__law_source := F__law_source.kp
  have b__law_source := bi__law_source F__law_source
  obtain ⟨fd__law_rows, F__law_rows⟩ := T.d__law_rows
  have G__law_rows := ok__law_rows (P := P) (w := w) (base := base) T F__law_rows
  have k__law_rows := F__law_rows.kp
  have b__law_rows := bi__law_rows F__law_rows
  obtain ⟨fd__law_text, F__law_text⟩ := T.d__law_text
  have G__law_text := ok__law_text (P := P) (w := w) (base := base) T F__law_text
  have k__law_text := F__law_text.kp
  have b__law_text := bi__law_text F__law_text
  obtain ⟨fd__law_cell_at, F__law_cell_at⟩ := T.d__law_cell_at
  have G__law_cell_at := ok__law_cell_at (P := P) (w := w) (base := base) T F__law_cell_at
  have k__law_cell_at := F__law_cell_at.kp
  have b__law_cell_at := bi__law_cell_at F__law_cell_at
  obtain ⟨fd_requirements, F_requirements⟩ := T.d_requirements
  have G_requirements := ok_requirements (P := P) (w := w) (base := base) T F_requirements
  have k_requirements := F_requirements.kp
  have b_requirements := bi_requirements F_requirements
  obtain ⟨fd__law_labels, F__law_labels⟩ := T.d__law_labels
  have G__law_labels := ok__law_labels (P := P) (w := w) (base := base) T F__law_labels
  have k__law_labels := F__law_labels.kp
  have b__law_labels := bi__law_labels F__law_labels
  obtain ⟨fd_is_selector, F_is_selector⟩ := T.d_is_selector
  have G_is_selector := ok_is_selector (P := P) (w := w) (base := base) T F_is_selector
  have k_is_selector := F_is_selector.kp
  have b_is_selector := bi_is_selector F_is_selector
  obtain ⟨fd__law_fulfils, F__law_fulfils⟩ := T.d__law_fulfils
  have G__law_fulfils := ok__law_fulfils (P := P) (w := w) (base := base) T F__law_fulfils
  have k__law_fulfils := F__law_fulfils.kp
  have b__law_fulfils := bi__law_fulfils F__law_fulfils
  obtain ⟨fd__law_draw, F__law_draw⟩ := T.d__law_draw
  have G__law_draw := ok__law_draw (P := P) (w := w) (base := base) T F__law_draw
  have k__law_draw := F__law_draw.kp
  have b__law_draw := bi__law_draw F__law_draw
  obtain ⟨fd_is_labels, F_is_labels⟩ := T.d_is_labels
  have G_is_labels := ok_is_labels (P := P) (w := w) (base := base) T F_is_labels
  have k_is_labels := F_is_labels.kp
  have b_is_labels := bi_is_labels F_is_labels
  obtain ⟨fd_matches, F_matches⟩ := T.d_matches
  have G_matches := ok_matches (P := P) (w := w) (base := base) T F_matches
  have k_matches := F_matches.kp
  have b_matches := bi_matches F_matches
  refine okG F sc_law (fun vs H Q E h => ?len) (fun cdv A outer s H vs Q E hr hG h => ?body)
  case len => obtain ⟨a, ns, rfl, hS, hlen, k⟩ := h; rfl
  case body =>
  obtain ⟨a, ns, rfl, hS, hlen, k⟩ := h
  have hu := hu_of hr
  refine ⟨_, PSs.nox (pss_cons (ps_for PassesOwn.never rfl (pi_list (pe_op op_cat (pe_lst (pa_cons (pe_call G__law_cell_at (hr.mono (by first | decide | omega)) rfl T.g__law_cell_at k__law_cell_at b__law_cell_at .nil pass0 (pa_cons (pv 0) (pa_cons pe_int pa_nil))) pa_nil)) (pe_slice sl_list (pv 0) (po_some pe_int) (po_some pe_int)))) (pg_name (i := 1) sc_law.nd rfl (Or.inl rfl))
      (pss_cons (ps_set (i := 2) sc_law.nd rfl (Or.inl rfl) (pe_call G__law_source (hr.mono (by first | decide | omega)) rfl T.g__law_source k__law_source b__law_source .nil pass0 (pa_cons (pv 1) pa_nil)))
        (pss_cons (ps_set (i := 3) sc_law.nd rfl (Or.inl rfl) (pe_slice sl_list (pe_lst (pa_cons pe_str (pa_cons pe_str (pa_cons pe_str (pa_cons (pe_slice sl_str pe_str po_none (po_some pe_int)) pa_nil))))) po_none (po_some (pe_op op_add pe_int (pe_call G__law_draw (hr.mono (by first | decide | omega)) rfl T.g__law_draw k__law_draw b__law_draw .nil pass0 (pa_cons (pv 2) (pa_cons pe_int pa_nil)))))))
        (pss_cons (ps_set (i := 4) sc_law.nd rfl (Or.inl rfl) (pe_call G__law_rows (hr.mono (by first | decide | omega)) rfl T.g__law_rows k__law_rows b__law_rows .nil pass0 (pa_cons (pv 2) (pa_cons (pv 3) (pa_cons pe_int pa_nil)))))
        (pss_cons (ps_set (i := 5) sc_law.nd rfl (Or.inl rfl) (pe_call G__law_text (hr.mono (by first | decide | omega)) rfl T.g__law_text k__law_text b__law_text .nil pass0 (pa_cons (pv 4) pa_nil)))
        (pss_cons (ps_if (PW.pt (pw_or (pt_cmpR op_notBl (pe_call G_is_selector (hr.mono (by first | decide | omega)) rfl T.g_is_selector k_is_selector b_is_selector .nil pass0 (pa_cons (pv 5) pa_nil)) pe_bl (nomark _)) (pw_or1 (pt_cmpR (op_neD hr.units) (pe_call G_requirements (hr.mono (by first | decide | omega)) rfl T.g_requirements k_requirements b_requirements .nil pass0 (pa_cons (pv 5) pa_nil)) (pv 4) (nomark _))))) (pss_one (ps_ret pe_bl)) pss_nil)
        (pss_cons (ps_expr (pe_bm PySem.F.plainAttrs_list PySem.F.slot_list_append PySem.F.type_list_append mt_append (pe_call G_requirements (hr.mono (by first | decide | omega)) rfl T.g_requirements k_requirements b_requirements .nil pass0 (pa_cons (pv 5) pa_nil)) (pa_cons pe_non pa_nil)))
        (pss_cons (ps_if (pt_cmpR (op_neD hr.units) (pe_call G_requirements (hr.mono (by first | decide | omega)) rfl T.g_requirements k_requirements b_requirements .nil pass0 (pa_cons (pv 5) pa_nil)) (pv 4) (nomark _)) (pss_one (ps_ret pe_bl)) pss_nil)
        (pss_one (ps_for PassesOwn.never rfl (pi_range1 rfl T.n_range (pa_cons pe_int pa_nil)) (pg_name (i := 6) sc_law.nd rfl (Or.inl rfl))
          (pss_cons (ps_set (i := 7) sc_law.nd rfl (Or.inl rfl) (pe_call G__law_labels (hr.mono (by first | decide | omega)) rfl T.g__law_labels k__law_labels b__law_labels .nil pass0 (pa_cons (pv 2) (pa_cons (pv 3) pa_nil))))
            (pss_cons (ps_set (i := 8) sc_law.nd rfl (Or.inl rfl) (pe_callTy (call_dictP rfl) (by rfl) T.n_dict (by decide +kernel) (pa_cons (pe_revL (LiI.pe_listItems rfl (pv 7) rfl T.n_list (by decide +kernel))) pa_nil)))
            (pss_cons (ps_par (i := 9) (j := 10) (by rfl) sc_law.nd rfl rfl (by decide) rfl rfl (pa_cons (pe_call G__law_fulfils (hr.mono (by first | decide | omega)) rfl T.g__law_fulfils k__law_fulfils b__law_fulfils .nil pass0 (pa_cons (pv 4) (pa_cons (pv 7) pa_nil))) (pa_cons (pe_callB (call_repr hG hr.units) (by rfl) T.n_repr (by decide +kernel) (pa_cons (pv 7) pa_nil)) pa_nil)) (by rfl))
            (pss_cons (ps_if (PW.pt (pw_or (pt_cmpR op_notBl (pe_call G_is_labels (hr.mono (by first | decide | omega)) rfl T.g_is_labels k_is_labels b_is_labels .nil pass0 (pa_cons (pv 7) pa_nil)) pe_bl (nomark _)) (pw_or1 (pt_cmpR op_ne (pe_callB (call_repr hG hr.units) (by rfl) T.n_repr (by decide +kernel) (pa_cons (pe_call G_matches (hr.mono (by first | decide | omega)) rfl T.g_matches k_matches b_matches .nil pass0 (pa_cons (pv 5) (pa_cons (pv 7) pa_nil))) pa_nil)) (pe_callB (call_repr hG hr.units) (by rfl) T.n_repr (by decide +kernel) (pa_cons (pv 9) pa_nil)) (nomark _))))) (pss_one (ps_ret pe_bl)) pss_nil)
            (pss_cons (ps_if (PW.pt (pw_or (pt_cmpR op_ne (pe_call G_matches (hr.mono (by first | decide | omega)) rfl T.g_matches k_matches b_matches .nil pass0 (pa_cons (pv 5) (pa_cons (pv 8) pa_nil))) (pv 9) (nomark _)) (pw_or1 (pt_cmpR op_ne (pe_call G_matches (hr.mono (by first | decide | omega)) rfl T.g_matches k_matches b_matches .nil pass0 (pa_cons (pe_call G__law_text (hr.mono (by first | decide | omega)) rfl T.g__law_text k__law_text b__law_text .nil pass0 (pa_cons (pe_revL (pv 4)) pa_nil)) (pa_cons (pv 7) pa_nil))) (pv 9) (nomark _))))) (pss_one (ps_ret pe_bl)) pss_nil)
            (pss_cons (ps_if (pt_cmpR op_ne (pe_callB (call_repr hG hr.units) (by rfl) T.n_repr (by decide +kernel) (pa_cons (pv 7) pa_nil)) (pv 10) (nomark _)) (pss_one (ps_ret pe_bl)) pss_nil)
            (pss_one (ps_if (PW.pt (pw_and (pt_cmpR op_le (pe_callB call_len_seq (by rfl) T.n_len (by decide +kernel) (pa_cons (pv 4) pa_nil)) pe_int (nomark _)) (pw_and1 (pt_cmpR op_ne (pe_call G_matches (hr.mono (by first | decide | omega)) rfl T.g_matches k_matches b_matches .nil pass0 (pa_cons (pe_call G__law_text (hr.mono (by first | decide | omega)) rfl T.g__law_text k__law_text b__law_text .nil pass0 (pa_cons (pe_op op_cat (pv 4) (pv 4)) pa_nil)) (pa_cons (pv 7) pa_nil))) (pv 9) (nomark _))))) (pss_one (ps_ret pe_bl)) pss_nil))))))))))))))))))
    (pss_one (ps_ret pe_bl))), ?_⟩
  refine ⟨_, rfl, a, ns, rfl, hS, fun i0 => ⟨smallN (by show 1 ≤ 1000; decide), fun p1 q1 => ?_⟩⟩
  have S1 := Same.new (u := .lst [.int i0]) q1
  have g1 : (upd H p1 (.lst [.int i0])) p1 = _ := upd_same
  generalize upd H p1 (.lst [.int i0]) = H1 at S1 g1 ⊢
  refine ⟨_, rfl, _, rfl, _, rfl, a, _, rfl, S1.seq hS, fun p2 q2 => ?_⟩
  have S2 := Same.new (u := .lst (cutV (ns.map V.int) (some 1) (some 6))) q2
  have g2 : (upd H1 p2 (.lst (cutV (ns.map V.int) (some 1) (some 6)))) p2 = _ := upd_same
  generalize upd H1 p2 (.lst (cutV (ns.map V.int) (some 1) (some 6))) = H2 at S2 g2 ⊢
  have hc : (cutV (ns.map V.int) (some 1) (some 6)).length ≤ 63 := Nat.le_trans (cutV_length _ _ _) (by rw [List.length_map]; exact hlen)
  refine ⟨p1, p2, _, _, rfl, rfl, S2 _ _ g1, g2, smallN (by show 1 + _ ≤ 1000; omega), fun p3 q3 => ?_⟩
  have S3 := Same.new (u := .lst ([.int i0] ++ cutV (ns.map V.int) (some 1) (some 6))) q3
  have g3 : (upd H2 p3 (.lst ([.int i0] ++ cutV (ns.map V.int) (some 1) (some 6)))) p3 = _ := upd_same
  generalize upd H2 p3 (.lst ([.int i0] ++ cutV (ns.map V.int) (some 1) (some 6))) = H3 at S3 g3 ⊢
  have hints : ∀ x ∈ [V.int i0] ++ cutV (ns.map V.int) (some 1) (some 6), ∃ i, x = .int i := fun x hx => by
    rcases List.mem_append.mp hx with hx | hx
    · exact ⟨_, List.mem_singleton.mp hx⟩
    · exact cut_int hx
  generalize [V.int i0] ++ cutV (ns.map V.int) (some 1) (some 6) = cells at g3 hints ⊢
  refine ⟨p3, rfl, ⟨_, SqL.of g3⟩, for_list (K := K) (a := p3) (xs := cells) (fun i σ H' => ∃ v1 v2 v3 v4 v5 v6 v7 v8 v9 v10 : Option V, σ = [some (.ref a), v1, v2, v3, v4, v5, v6, v7, v8, v9, v10] ∧ Same H3 H')
    ⟨_, _, _, _, _, _, _, _, _, _, rfl, Same.refl _⟩ (fun i σ H' _ ⟨_, _, _, _, _, _, _, _, _, _, _, sm⟩ => SqL.of (sm _ _ g3)) ?_ (fun σ H' _ => k H')⟩
  rintro i x σ H4 hx ⟨v1, v2, v3, v4, v5, v6, v7, v8, v9, v10, rfl, S4⟩
  obtain ⟨z, rfl⟩ := hints x (mem_at hx)
  refine ⟨_, rfl, z, rfl, fun aw u q5 hu5 => ?_⟩
  have S5 := S4.trans (Same.new (u := u) q5)
  have nA : ∀ b o, H3 b = some o → b ≠ aw := fun b o hb => ne_of_none (S4 _ _ hb) q5
  have w5 := well_upd (H := H4) (a := aw) hu5
  generalize upd H4 aw u = H5 at S5 w5 ⊢
  -- names
  refine ⟨_, rfl, _, rfl, by decide, smallN (by show 4 ≤ 1000; decide), fun p6 q6 => ?_⟩
  rw [n10]
  have K6 := Keep.new (a := aw) (u := .lst (names4.map V.str)) q6
  have w6 := well_new (u := .lst (names4.map V.str)) w5 q6
  have g6 : (upd H5 p6 (.lst (names4.map V.str))) p6 = _ := upd_same
  have n6 : p6 ≠ aw := well_ne3 w5 q6
  have e6 : upd H5 p6 (.lst [V.str "app", .str "tier", .str "a", .str "n012345678"]) = upd H5 p6 (.lst (names4.map V.str)) := rfl
  rw [e6]
  clear e6
  generalize upd H5 p6 (.lst (names4.map V.str)) = H6 at K6 w6 g6 ⊢
  refine ⟨_, rfl, aw, 0, 4, rfl, w6, by decide, by decide, by decide, fun r u7 n7 r0 r1 hn7 hu7 => ?_⟩
  have K7 := K6.trans (Keep.at_ (u := u7))
  have w7 := well_upd (H := H6) (a := aw) hu7
  have g7 : upd H6 aw u7 p6 = _ := Keep.at_ _ _ n6 g6
  generalize upd H6 aw u7 = H7 at K7 w7 g7 ⊢
  refine ⟨_, _, rfl, rfl, _, rfl, p6, _, rfl, SqL.of g7, fun p8 q8 => ?_⟩
  obtain ⟨nms, enms, hN⟩ := names_cut r0 r1
  rw [enms]
  have K8 := K7.trans (Keep.new (u := .lst (nms.map V.str)) q8)
  have w8 := well_new (u := .lst (nms.map V.str)) w7 q8
  have g8 : (upd H7 p8 (.lst (nms.map V.str))) p8 = _ := upd_same
  have n8 : p8 ≠ aw := well_ne3 w7 q8
  generalize upd H7 p8 (.lst (nms.map V.str)) = H8 at K8 w8 g8 ⊢
  -- rows, their text
  refine ⟨_, rfl, _, rfl, aw, p8, n7, nms, rfl, w8, by omega, g8, n8, hN, fun L rows H9 n9 h8 hR nL K9 w9 hn9 => ?_⟩
  have g9 := K9 _ _ n8 g8
  have K59 := K8.trans K9
  refine ⟨_, rfl, L, rows, rfl, hR, h8, fun Ha Sa => ?_⟩
  -- is_selector, requirements
  refine ⟨_, rfl, rows, rfl, h8, fun Hb Sb => ⟨_, _, rfl, rfl, _, rfl, iteF ?_⟩⟩
  have neq : ∀ (L' : Addr) (Hx : Hp), RowsAt Hx L' rows → RowsAt Hx L rows → rNeD K (.ref L') (.ref L) Hx fun x H' => ∃ k, x = .bl k ∧ (k = false ∧ H' = Hx) := fun L' Hx h1 h2 =>
    ⟨_, _, rows_dp h1, rows_dp h2, rows_sh h8.2, rows_sh h8.2, _, rfl, by rw [rows_eqv h8.2]; rfl, rfl⟩
  have hRb := rows_same (Sa.trans Sb) hR
  refine ⟨_, rfl, rows, rfl, h8, fun Lc Hc Sc hLc hRc => ⟨_, rfl, _, _, rows_dp hRc, rows_dp (rows_same Sc hRb), rows_sh h8.2, rows_sh h8.2, _, rfl, ?_⟩⟩
  rw [rows_eqv h8.2]
  refine iteF ?_
  refine ⟨_, rfl, rows, rfl, h8, fun Ld Hd Sd hLd hRd => ?_⟩
  obtain ⟨psd, gd, _⟩ := id hRd
  have ld := paired_len (by assumption : Paired (RowAt Hd) psd rows)
  refine ⟨.inl ⟨rfl, _, SqL.of gd⟩, Ld, _, _, rfl, rfl, gd, small1000 (by rw [List.length_map, ld]; have := h8.1; omega), ?_⟩
  have Se := Sc.trans (same_grow (u := .lst (psd.map V.ref ++ [.non])) hLd Sd)
  generalize upd Hd Ld (.lst (psd.map V.ref ++ [.non])) = He' at Se ⊢
  have hRe := rows_same Se hRb
  refine ⟨_, rfl, rows, rfl, h8, fun Lf Hf Sf hLf hRf => ⟨_, rfl, _, _, rows_dp hRf, rows_dp (rows_same Sf hRe), rows_sh h8.2, rows_sh h8.2, _, rfl, ?_⟩⟩
  rw [rows_eqv h8.2]
  refine iteF ?_
  have S9f := Sa.trans (Sb.trans (Se.trans Sf))
  have hRF := rows_same S9f hR
  have wF := well_same w9 S9f
  have gF := S9f _ _ g9
  have K5F := K59.trans (Keep.of S9f)
  -- six tables
  refine ⟨6, rfl, by decide, by decide, for_range (lo := 0) (n := 6) (fun i σ H' => ∃ (v6 v7 v8 v9 v10 : Option V) (n' : Nat), σ = [some (.ref a), some (.int z), some (.ref aw), some (.ref p8), some (.ref L), some (.str (selT rows)), v6, v7, v8, v9, v10] ∧ Keep aw H5 H' ∧ WellAt H' aw n' ∧ n' ≤ n9 + 20 * i ∧ RowsAt H' L rows ∧ H' p8 = some (.lst (nms.map V.str)))
    ⟨_, _, _, _, _, n9, rfl, K5F, wF, by omega, hRF, gF⟩ ?_ ?_⟩
  · rintro j σ I1 hj ⟨v6, v7, v8, v9, v10, m1, rfl, KI1, wI1, hm1, hRI1, gI1⟩
    refine ⟨_, rfl, _, rfl, aw, p8, m1, nms, rfl, wI1, by omega, gI1, n8, hN, fun d kvs I2 m2 hL hd K2 w2 hm2 => ?_⟩
    have hR2 := rows_keep wI1 K2 nL hRI1
    have g2' := K2 _ _ n8 gI1
    have ok := hL.ok
    have nd := hL.nd
    -- turned
    refine ⟨_, rfl, d, _, rfl, hd, fun I3 p3' ts s3 np3 nts _ gp3 pr3 => ?_⟩
    have S3' : Same I2 I3 := s3
    refine ⟨p3', _, rfl, SqL.of gp3, fun p4' q4' => ?_⟩
    have S4' := Same.new (u := .lst (ts.map V.ref).reverse) q4'
    have g4' : (upd I3 p4' (.lst (ts.map V.ref).reverse)) p4' = some (.lst (ts.reverse.map V.ref)) := by rw [upd_same, List.map_reverse]
    generalize upd I3 p4' (.lst (ts.map V.ref).reverse) = I4 at S4' g4' ⊢
    refine ⟨p4', ts.reverse, (labD kvs).reverse, rfl, SqL.of g4', paired_rev (Paired.mono (fun t q e => SqT.of (S4' _ _ e)) pr3), fun p5' q5' => ?_⟩
    rw [merge_lab nd]
    have S5' := Same.new (u := .dK (labD kvs.reverse)) q5'
    have g5' : (upd I4 p5' (.dK (labD kvs.reverse))) p5' = _ := upd_same
    generalize upd I4 p5' (.dK (labD kvs.reverse)) = I5 at S5' g5' ⊢
    have S25 := S3'.trans (S4'.trans S5')
    have hd5 := S25 _ _ hd
    have hR5 := rows_same S25 hR2
    obtain ⟨sh1, sh2, sh3⟩ := lab_shown hL
    -- due, kept
    refine ⟨_, rfl, _, rfl, L, d, rows, kvs, rfl, hR5, hd5, _, rfl, _, _, rfl, lab_shw hd5, sh1, sh2, sh3, _, _, rfl, ?_⟩
    -- is_labels, repr
    refine ⟨_, rfl, d, kvs, rfl, hd5, ok, fun I6 S6 => ⟨_, _, rfl, rfl, _, rfl, iteF ?_⟩⟩
    refine ⟨_, rfl, _, rfl, d, rows, kvs, rfl, h8, S6 _ _ hd5, ok, fun I7 S7 => ?_⟩
    have shb : ∀ b : Bool, (dOf (V.bl b)).showable = true ∧ (dOf (V.bl b)).depth ≤ 60 ∧ (dOf (V.bl b)).shown.length ≤ sizeLine := fun b => by cases b <;> decide
    refine ⟨_, _, rfl, shw_flat True.intro, (shb _).1, (shb _).2.1, (shb _).2.2, _, rfl, _, _, rfl, shw_flat True.intro, (shb _).1, (shb _).2.1, (shb _).2.2, rfl, _, rfl, ?_⟩
    refine iteNS rfl ?_
    have S57 := S6.trans S7
    have hd7 := S57 _ _ hd5
    have hR7 := rows_same S57 hR5
    -- the table turned, the rows turned
    refine ⟨_, rfl, _, rfl, p5', rows, kvs.reverse, rfl, h8, S57 _ _ g5', ?_, fun I8 S8 => ?_⟩
    · refine ⟨by rw [List.length_reverse]; exact ok.1, fun p hp => ok.2.1 p (List.mem_reverse.mp hp), by rw [List.map_reverse]; exact nd_rev nd⟩
    rw [ful_rev nd]
    refine ⟨_, rfl, rfl, _, rfl, ?_⟩
    refine iteNS rfl ?_
    have hd8 := S8 _ _ hd7
    have hR8 := rows_same S8 hR7
    obtain ⟨ps8, gL8, hp8⟩ := id hR8
    refine ⟨_, rfl, L, _, rfl, SqL.of gL8, fun p9 q9 => ?_⟩
    have S9 := Same.new (u := .lst (ps8.map V.ref).reverse) q9
    have hR9 : RowsAt (upd I8 p9 (.lst (ps8.map V.ref).reverse)) p9 rows.reverse := ⟨ps8.reverse, by rw [upd_same, List.map_reverse], paired_rev (Paired.mono (fun p r q => S9 _ _ q) hp8)⟩
    generalize upd I8 p9 (.lst (ps8.map V.ref).reverse) = I9 at S9 hR9 ⊢
    have h8r : Rows8 rows.reverse := ⟨by rw [List.length_reverse]; exact h8.1, fun r hr => h8.2 r (List.mem_reverse.mp hr)⟩
    refine ⟨p9, rows.reverse, rfl, hR9, h8r, fun Ia Sa' => ?_⟩
    refine ⟨_, rfl, d, rows.reverse, kvs, rfl, h8r, Sa' _ _ (S9 _ _ hd8), ok, fun Ib Sb' => ?_⟩
    rw [ful_rows_rev]
    refine ⟨_, rfl, rfl, _, rfl, ?_⟩
    refine iteNS rfl ?_
    have S8b := S9.trans (Sa'.trans Sb')
    have hdb := S8b _ _ hd8
    have hRb' := rows_same S8b hR8
    -- repr again
    refine ⟨_, rfl, _, _, rfl, lab_shw hdb, sh1, sh2, sh3, _, rfl, rfl, _, rfl, ?_⟩
    refine iteNS rfl ?_
    obtain ⟨psb, gLb, hpb⟩ := id hRb'
    have lpb := paired_len hpb
    have fin : ∀ Ix, Same Ib Ix → ∃ (v6 v7 v8 v9 v10 : Option V) (n' : Nat), [some (V.ref a), some (.int z), some (.ref aw), some (.ref p8), some (.ref L), some (.str (selT rows)), some (.int (0 + (j : Int))), some (.ref d), some (.ref p5'), some (.bl (fulAll rows kvs)), some (.str (PyData.shown (.dict (labP kvs))))] = [some (V.ref a), some (.int z), some (.ref aw), some (.ref p8), some (.ref L), some (.str (selT rows)), v6, v7, v8, v9, v10] ∧ Keep aw H5 Ix ∧ WellAt Ix aw n' ∧ n' ≤ n9 + 20 * (j + 1) ∧ RowsAt Ix L rows ∧ Ix p8 = some (.lst (nms.map V.str)) := fun Ix Sx => by
      have S2x := S25.trans (S57.trans (S8.trans (S8b.trans Sx)))
      exact ⟨_, _, _, _, _, m2, rfl, KI1.trans (K2.trans (Keep.of S2x)), well_same w2 S2x, by omega, rows_same Sx hRb', S2x _ _ g2'⟩
    refine ⟨_, rfl, L, _, rfl, .inl (SqL.of gLb), _, _, rfl, rfl, _, rfl, ?_⟩
    refine ite2 (fun h4 => ?_) (fun _ => fin Ib (Same.refl _))
    have h4 := of_decide_eq_true h4
    rw [List.length_map, lpb] at h4
    refine ⟨_, rfl, _, rfl, L, L, _, _, rfl, rfl, gLb, gLb, smallN (by rw [List.length_map, lpb]; omega), fun pc qc => ?_⟩
    have Sc' := Same.new (u := .lst (psb.map V.ref ++ psb.map V.ref)) qc
    have hRc' : RowsAt (upd Ib pc (.lst (psb.map V.ref ++ psb.map V.ref))) pc (rows ++ rows) := ⟨psb ++ psb, by rw [upd_same, List.map_append], paired_app (Paired.mono (fun p r q => Sc' _ _ q) hpb) (Paired.mono (fun p r q => Sc' _ _ q) hpb)⟩
    generalize upd Ib pc (.lst (psb.map V.ref ++ psb.map V.ref)) = Ic at Sc' hRc' ⊢
    have h8t : Rows8 (rows ++ rows) := ⟨by rw [List.length_append]; omega, fun r hr => by rcases List.mem_append.mp hr with q | q <;> exact h8.2 r q⟩
    refine ⟨pc, rows ++ rows, rfl, hRc', h8t, fun Id Sd' => ?_⟩
    refine ⟨_, rfl, d, rows ++ rows, kvs, rfl, h8t, Sd' _ _ (Sc' _ _ hdb), ok, fun Ie Se' => ?_⟩
    rw [ful_rows_two]
    refine ⟨_, rfl, rfl, _, rfl, ?_⟩
    refine iteNS rfl ?_
    exact fin Ie (Sc'.trans (Sd'.trans Se'))
  · rintro σ I1 ⟨v6, v7, v8, v9, v10, m1, rfl, KI1, wI1, hm1, hRI1, gI1⟩
    exact ⟨_, _, _, _, _, _, _, _, _, _, rfl, fun b o hb => KI1 _ _ (nA b o hb) (S5 _ _ hb)⟩

def dd_is_user_name : He.DefD := ⟨("is_user_name", none), "is_user_name", "is_user_name", defArgs s_is_user_name, defBody s_is_user_name, defScope s_is_user_name, [], []⟩
def dd_is_label_value : He.DefD := ⟨("is_label_value", none), "is_label_value", "is_label_value", defArgs s_is_label_value, defBody s_is_label_value, defScope s_is_label_value, [], []⟩
def dd_is_labels : He.DefD := ⟨("is_labels", none), "is_labels", "is_labels", defArgs s_is_labels, defBody s_is_labels, defScope s_is_labels, [], []⟩
def dd_requirement : He.DefD := ⟨("requirement", none), "requirement", "requirement", defArgs s_requirement, defBody s_requirement, defScope s_requirement, [], []⟩
def dd_rows_of : He.DefD := ⟨("rows_of", none), "rows_of", "rows_of", defArgs s_rows_of, defBody s_rows_of, defScope s_rows_of, [], []⟩
def dd_is_selector : He.DefD := ⟨("is_selector", none), "is_selector", "is_selector", defArgs s_is_selector, defBody s_is_selector, defScope s_is_selector, [], []⟩
def dd_requirements : He.DefD := ⟨("requirements", none), "requirements", "requirements", defArgs s_requirements, defBody s_requirements, defScope s_requirements, [], []⟩
def dd_is_fulfilled : He.DefD := ⟨("is_fulfilled", none), "is_fulfilled", "is_fulfilled", defArgs s_is_fulfilled, defBody s_is_fulfilled, defScope s_is_fulfilled, [], []⟩
def dd_matches : He.DefD := ⟨("matches", none), "matches", "matches", defArgs s_matches, defBody s_matches, defScope s_matches, [], []⟩
def dd__law_cell_at : He.DefD := ⟨("_law_cell_at", none), "_law_cell_at", "_law_cell_at", defArgs s__law_cell_at, defBody s__law_cell_at, defScope s__law_cell_at, [], []⟩
def dd__law_source : He.DefD := ⟨("_law_source", none), "_law_source", "_law_source", defArgs s__law_source, defBody s__law_source, defScope s__law_source, [], []⟩
def dd__law_draw : He.DefD := ⟨("_law_draw", none), "_law_draw", "_law_draw", defArgs s__law_draw, defBody s__law_draw, defScope s__law_draw, [], []⟩
def dd__law_pick : He.DefD := ⟨("_law_pick", none), "_law_pick", "_law_pick", defArgs s__law_pick, defBody s__law_pick, defScope s__law_pick, [], []⟩
def dd__law_value : He.DefD := ⟨("_law_value", none), "_law_value", "_law_value", defArgs s__law_value, defBody s__law_value, defScope s__law_value, [], []⟩
def dd__law_requirement : He.DefD := ⟨("_law_requirement", none), "_law_requirement", "_law_requirement", defArgs s__law_requirement, defBody s__law_requirement, defScope s__law_requirement, [], []⟩
def dd__law_text : He.DefD := ⟨("_law_text", none), "_law_text", "_law_text", defArgs s__law_text, defBody s__law_text, defScope s__law_text, [], []⟩
def dd__law_rows : He.DefD := ⟨("_law_rows", none), "_law_rows", "_law_rows", defArgs s__law_rows, defBody s__law_rows, defScope s__law_rows, [], []⟩
def dd__law_fulfils : He.DefD := ⟨("_law_fulfils", none), "_law_fulfils", "_law_fulfils", defArgs s__law_fulfils, defBody s__law_fulfils, defScope s__law_fulfils, [], []⟩
def dd__law_all_labels : He.DefD := ⟨("_law_all_labels", none), "_law_all_labels", "_law_all_labels", defArgs s__law_all_labels, defBody s__law_all_labels, defScope s__law_all_labels, [], []⟩
def dd__law_labels : He.DefD := ⟨("_law_labels", none), "_law_labels", "_law_labels", defArgs s__law_labels, defBody s__law_labels, defScope s__law_labels, [], []⟩
def dd_law : He.DefD := ⟨("law", none), "law", "law", defArgs s_law, defBody s_law, defScope s_law, [], []⟩
def fn : List He.DefD := [dd_is_user_name, dd_is_label_value, dd_is_labels, dd_requirement, dd_rows_of, dd_is_selector, dd_requirements, dd_is_fulfilled, dd_matches, dd__law_cell_at, dd__law_source, dd__law_draw, dd__law_pick, dd__law_value, dd__law_requirement, dd__law_text, dd__law_rows, dd__law_fulfils, dd__law_all_labels, dd__law_labels, dd_law]
def fa : List He.Fa := [.glo "is_user_name", .glo "is_label_value", .glo "is_labels", .glo "requirement", .glo "rows_of", .glo "is_selector", .glo "requirements", .glo "is_fulfilled", .glo "matches", .glo "_law_cell_at", .glo "_law_source", .glo "_law_draw", .glo "_law_pick", .glo "_law_value", .glo "_law_requirement", .glo "_law_text", .glo "_law_rows", .glo "_law_fulfils", .glo "_law_all_labels", .glo "_law_labels", .glo "law", .glo "PlaneError", .glo "BadSelector", .glo "BadLabels", .free "len", .free "int", .free "str", .free "list", .free "dict", .free "range", .free "isinstance", .free "all", .free "repr", .str "SMALL" "abcdefghijklmnopqrstuvwxyz", .str "DIGITS" "0123456789", .int "MOST_SIGNS" 10, .int "MOST_LABELS" 8, .int "MOST_REQUIREMENTS" 8, .int "MOST_LETTERS" 24]
abbrev R : PySem.W.OpenRow := PySem.W.OpenLaw.row PySem.Challenge.rw_controlplane_k03_whole_selectors_matched
abbrev hk : PySem.W.Hook := He.hookD 6 fa fn
def ob (s : PySem.W.SharedT) : He.AlD := He.obsDG 6 fa fn (HandSHeadRun.getT s)
theorem ob_eq (s : PySem.W.SharedT) : ob s = hk.obs s.abs := He.obsDG_eq (HandSHeadRun.getT_eq s)
theorem run (w : World) : HandSHeadRun.RunEq R (PySem.W.view R.prog [33]) hk ob 2000 [("__name__" : PySem.Str), ("PlaneError" : PySem.Str), ("BadSelector" : PySem.Str), ("BadLabels" : PySem.Str), ("is_user_name" : PySem.Str), ("is_label_value" : PySem.Str), ("is_labels" : PySem.Str), ("requirement" : PySem.Str), ("rows_of" : PySem.Str), ("is_selector" : PySem.Str), ("requirements" : PySem.Str), ("is_fulfilled" : PySem.Str), ("matches" : PySem.Str), ("_law_cell_at" : PySem.Str), ("_law_source" : PySem.Str), ("_law_draw" : PySem.Str), ("_law_pick" : PySem.Str), ("_law_value" : PySem.Str), ("_law_requirement" : PySem.Str), ("_law_text" : PySem.Str), ("_law_rows" : PySem.Str), ("_law_fulfils" : PySem.Str), ("_law_all_labels" : PySem.Str), ("_law_labels" : PySem.Str), ("SMALL" : PySem.Str), ("DIGITS" : PySem.Str), ("MOST_SIGNS" : PySem.Str), ("MOST_LABELS" : PySem.Str), ("MOST_REQUIREMENTS" : PySem.Str), ("MOST_LETTERS" : PySem.Str)] w := by
  intro os
  kernel_rfl
theorem facts {P : Program} {w : World} {K : PySem.W.Frag} {h : Heap} {mg : Str → Option Value} {f : Addr} (X : K.In h) (G : h.Ns mainGlobals mg) (hfa : mg ("law" : Str) = some (.ref f)) (c : He.SaysD fa fn K) :
    ∃ fd : FuncData, (∀ (s : Shared) (v : Value), BindsTo s fd ⟨[v], []⟩ [("_law_script", v)]) ∧ ∀ base : Heap, K.In base → base.Ns mainGlobals mg → FnG P w K mg base CX0 6 f fd ["_law_script"] (sp_law K) := by
  have T : Txt K mg := ⟨He.glo_ok X G (c.fact 0 (f := .glo "is_user_name") rfl),
    c.def_ 0 (d := dd_is_user_name) rfl,
    He.glo_ok X G (c.fact 1 (f := .glo "is_label_value") rfl),
    c.def_ 1 (d := dd_is_label_value) rfl,
    He.glo_ok X G (c.fact 2 (f := .glo "is_labels") rfl),
    c.def_ 2 (d := dd_is_labels) rfl,
    He.glo_ok X G (c.fact 3 (f := .glo "requirement") rfl),
    c.def_ 3 (d := dd_requirement) rfl,
    He.glo_ok X G (c.fact 4 (f := .glo "rows_of") rfl),
    c.def_ 4 (d := dd_rows_of) rfl,
    He.glo_ok X G (c.fact 5 (f := .glo "is_selector") rfl),
    c.def_ 5 (d := dd_is_selector) rfl,
    He.glo_ok X G (c.fact 6 (f := .glo "requirements") rfl),
    c.def_ 6 (d := dd_requirements) rfl,
    He.glo_ok X G (c.fact 7 (f := .glo "is_fulfilled") rfl),
    c.def_ 7 (d := dd_is_fulfilled) rfl,
    He.glo_ok X G (c.fact 8 (f := .glo "matches") rfl),
    c.def_ 8 (d := dd_matches) rfl,
    He.glo_ok X G (c.fact 9 (f := .glo "_law_cell_at") rfl),
    c.def_ 9 (d := dd__law_cell_at) rfl,
    He.glo_ok X G (c.fact 10 (f := .glo "_law_source") rfl),
    c.def_ 10 (d := dd__law_source) rfl,
    He.glo_ok X G (c.fact 11 (f := .glo "_law_draw") rfl),
    c.def_ 11 (d := dd__law_draw) rfl,
    He.glo_ok X G (c.fact 12 (f := .glo "_law_pick") rfl),
    c.def_ 12 (d := dd__law_pick) rfl,
    He.glo_ok X G (c.fact 13 (f := .glo "_law_value") rfl),
    c.def_ 13 (d := dd__law_value) rfl,
    He.glo_ok X G (c.fact 14 (f := .glo "_law_requirement") rfl),
    c.def_ 14 (d := dd__law_requirement) rfl,
    He.glo_ok X G (c.fact 15 (f := .glo "_law_text") rfl),
    c.def_ 15 (d := dd__law_text) rfl,
    He.glo_ok X G (c.fact 16 (f := .glo "_law_rows") rfl),
    c.def_ 16 (d := dd__law_rows) rfl,
    He.glo_ok X G (c.fact 17 (f := .glo "_law_fulfils") rfl),
    c.def_ 17 (d := dd__law_fulfils) rfl,
    He.glo_ok X G (c.fact 18 (f := .glo "_law_all_labels") rfl),
    c.def_ 18 (d := dd__law_all_labels) rfl,
    He.glo_ok X G (c.fact 19 (f := .glo "_law_labels") rfl),
    c.def_ 19 (d := dd__law_labels) rfl,
    He.glo_ok X G (c.fact 20 (f := .glo "law") rfl),
    c.def_ 20 (d := dd_law) rfl,
    He.glo_ok X G (c.fact 21 (f := .glo "PlaneError") rfl),
    He.glo_ok X G (c.fact 22 (f := .glo "BadSelector") rfl),
    He.glo_ok X G (c.fact 23 (f := .glo "BadLabels") rfl),
    He.free_ok X G (c.fact 24 (f := .free "len") rfl),
    He.free_ok X G (c.fact 25 (f := .free "int") rfl),
    He.free_ok X G (c.fact 26 (f := .free "str") rfl),
    He.free_ok X G (c.fact 27 (f := .free "list") rfl),
    He.free_ok X G (c.fact 28 (f := .free "dict") rfl),
    He.free_ok X G (c.fact 29 (f := .free "range") rfl),
    He.free_ok X G (c.fact 30 (f := .free "isinstance") rfl),
    He.free_ok X G (c.fact 31 (f := .free "all") rfl),
    He.free_ok X G (c.fact 32 (f := .free "repr") rfl),
    He.str_ok X G (c.fact 33 (f := .str "SMALL" "abcdefghijklmnopqrstuvwxyz") rfl),
    He.str_ok X G (c.fact 34 (f := .str "DIGITS" "0123456789") rfl),
    He.int_ok X G (c.fact 35 (f := .int "MOST_SIGNS" 10) rfl),
    He.int_ok X G (c.fact 36 (f := .int "MOST_LABELS" 8) rfl),
    He.int_ok X G (c.fact 37 (f := .int "MOST_REQUIREMENTS" 8) rfl),
    He.int_ok X G (c.fact 38 (f := .int "MOST_LETTERS" 24) rfl)⟩
  obtain ⟨fd, F⟩ := T.d_law
  have e := hfa.symm.trans T.g_law
  cases e
  have b := FunD.bindsA (ps := ["_law_script"]) F fun _ _ _ _ _ _ us hl => match us, hl with | [_], _ => rfl
  exact ⟨fd, fun s v => b s [v] rfl, fun base _ _ => ok_law T F⟩
end Lk
open PySem PySem.W PySem.Calls PyProof.Rows
theorem PySem.Challenge.cw_controlplane_k03_whole_selectors_matched_holds : PySem.Challenge.rw_controlplane_k03_whole_selectors_matched.Holds := by
  w_on; o_law
  refine HandSHeadRun.head_any (r := OpenLaw.row PySem.Challenge.rw_controlplane_k03_whole_selectors_matched) (q := view (OpenLaw.row PySem.Challenge.rw_controlplane_k03_whole_selectors_matched).prog [33]) (H := Lk.hk) (ob := Lk.ob) (M := 2000) (loose := [("__name__" : PySem.Str), ("PlaneError" : PySem.Str), ("BadSelector" : PySem.Str), ("BadLabels" : PySem.Str), ("is_user_name" : PySem.Str), ("is_label_value" : PySem.Str), ("is_labels" : PySem.Str), ("requirement" : PySem.Str), ("rows_of" : PySem.Str), ("is_selector" : PySem.Str), ("requirements" : PySem.Str), ("is_fulfilled" : PySem.Str), ("matches" : PySem.Str), ("_law_cell_at" : PySem.Str), ("_law_source" : PySem.Str), ("_law_draw" : PySem.Str), ("_law_pick" : PySem.Str), ("_law_value" : PySem.Str), ("_law_requirement" : PySem.Str), ("_law_text" : PySem.Str), ("_law_rows" : PySem.Str), ("_law_fulfils" : PySem.Str), ("_law_all_labels" : PySem.Str), ("_law_labels" : PySem.Str), ("SMALL" : PySem.Str), ("DIGITS" : PySem.Str), ("MOST_SIGNS" : PySem.Str), ("MOST_LABELS" : PySem.Str), ("MOST_REQUIREMENTS" : PySem.Str), ("MOST_LETTERS" : PySem.Str)]) (d := HandSHeadRun.topDef (OpenLaw.row PySem.Challenge.rw_controlplane_k03_whole_selectors_matched).prog 33) (kwd := []) Lk.ob_eq
    (by kernel_rfl) (fun s => by kernel_rfl) Lk.run (by kernel_rfl) (by kernel_rfl) (by kernel_rfl) (by rfl) (by first | assumption | decide +kernel) (by decide +kernel) ⟨rfl, rfl, rfl, rfl, rfl, by decide +kernel⟩ ?hw ?hc
  case hw => w_witness2
  case hc =>
    refine Lk.walk_ofG (l := PySem.Challenge.rw_controlplane_k03_whole_selectors_matched) (n := 63) (k := 6) (x := "_law_script") (CX := L2.CX0) rfl (by decide) (by kernel_rfl) ⟨rfl, by decide, by decide⟩ ?F (fun _ _ _ _ z => z)
    intro w mg fa h Y G hmg0
    obtain ⟨K, KX, c⟩ := Y
    have hmg : mg ("law" : PySem.Str) = some (.ref fa) := by
      have e : (HandSHeadRun.topDef (OpenLaw.row PySem.Challenge.rw_controlplane_k03_whole_selectors_matched).prog 33).name = ("law" : PySem.Str) := by kernel_rfl
      rw [← e]
      exact hmg0
    obtain ⟨fd, hb, hF⟩ := Lk.facts (P := (PySem.Challenge.rw_controlplane_k03_whole_selectors_matched).prog) (w := w) KX G hmg c
    exact ⟨K, fd, Lk.sp_law K, KX, hb, fun H a ns hl hS => ⟨a, ns, rfl, hS, hl, fun _ => rfl⟩, hF⟩

