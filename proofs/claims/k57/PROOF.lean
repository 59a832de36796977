import PyProof.Rows.All
import Wide.All
import OpenK.AllK
import Wide.FinOn
import KE.KStateDown
import Lean
import HandS.ForMost
import HandS.Flow
import HandS.Style
import HandS.Wide
import HandS.IsInst
import HandS.TupAny
import HandS.More
import HandS.WordsExc
import HandS.Defaults
import HandS.Lambda
import HandS.Head0
import HandS.Head1
import HandS.Head2
import HandS.HeadEnd
import HandS.HeadHook1
import HandS.HeadHook2
import HandS.EndBits
import HandS.EndTab
import HandS.Walk
import HandS.TryOnly
import HandS.DictComp
import HandS.SortInts
import PySem.Challenge.RW_controlplane_k57_who_leads_by_what_was_w
set_option Elab.async false
set_option linter.all false
set_option maxRecDepth 100000
set_option maxHeartbeats 4000000
namespace Lk
open PySem PySem.Spec PyProof.Rows L2
def topS (i : Nat) : Stmt := PySem.Challenge.pw_controlplane_k57_who_leads_by_what_was_w.main.body.getD i (.Pass ⟨0, 0, 0, 0⟩)
abbrev s_is_integer : Stmt := topS 4
abbrev N_is_integer : List Str := ["value"]
abbrev ps_is_integer : List Str := ["value"]
theorem sc_is_integer : FnScope N_is_integer ps_is_integer (defScope s_is_integer) := ⟨rfl, rfl, rfl, by decide +kernel, rfl, by decide +kernel, by decide +kernel⟩
abbrev s_check_ticks : Stmt := topS 7
abbrev N_check_ticks : List Str := ["value", "why"]
abbrev ps_check_ticks : List Str := ["value", "why"]
theorem sc_check_ticks : FnScope N_check_ticks ps_check_ticks (defScope s_check_ticks) := ⟨rfl, rfl, rfl, by decide +kernel, rfl, by decide +kernel, by decide +kernel⟩
abbrev s_both_lead : Stmt := topS 8
abbrev N_both_lead : List Str := ["length", "clocks", "writes", "moment", "table", "last", "some", "when", "name", "renewed"]
abbrev ps_both_lead : List Str := ["length", "clocks", "writes"]
theorem sc_both_lead : FnScope N_both_lead ps_both_lead (defScope s_both_lead) := ⟨rfl, rfl, rfl, by decide +kernel, rfl, by decide +kernel, by decide +kernel⟩
abbrev s__law_cell_at : Stmt := topS 10
abbrev N__law_cell_at : List Str := ["_law_script", "_law_index"]
abbrev ps__law_cell_at : List Str := ["_law_script", "_law_index"]
theorem sc__law_cell_at : FnScope N__law_cell_at ps__law_cell_at (defScope s__law_cell_at) := ⟨rfl, rfl, rfl, by decide +kernel, rfl, by decide +kernel, by decide +kernel⟩
abbrev s__law_well : Stmt := topS 11
abbrev N__law_well : List Str := ["_law_cell"]
abbrev ps__law_well : List Str := ["_law_cell"]
theorem sc__law_well : FnScope N__law_well ps__law_well (defScope s__law_well) := ⟨rfl, rfl, rfl, by decide +kernel, rfl, by decide +kernel, by decide +kernel⟩
abbrev s__law_draw : Stmt := topS 12
abbrev N__law_draw : List Str := ["_law_well_here", "_law_many", "_law_found", "_law_salt", "_law_base", "_law_number"]
abbrev ps__law_draw : List Str := ["_law_well_here", "_law_many"]
theorem sc__law_draw : FnScope N__law_draw ps__law_draw (defScope s__law_draw) := ⟨rfl, rfl, rfl, by decide +kernel, rfl, by decide +kernel, by decide +kernel⟩
abbrev s__law_one : Stmt := topS 13
abbrev N__law_one : List Str := ["_law_well_here", "_law_some"]
abbrev ps__law_one : List Str := ["_law_well_here", "_law_some"]
theorem sc__law_one : FnScope N__law_one ps__law_one (defScope s__law_one) := ⟨rfl, rfl, rfl, by decide +kernel, rfl, by decide +kernel, by decide +kernel⟩
abbrev s__law_due : Stmt := topS 14
abbrev N__law_due : List Str := ["_law_span", "_law_moments", "_law_notes_here", "_law_known", "_law_at", "_law_table", "_law_when", "_law_name", "_law_number", "_law_some"]
abbrev ps__law_due : List Str := ["_law_span", "_law_moments", "_law_notes_here"]
theorem sc__law_due : FnScope N__law_due ps__law_due (defScope s__law_due) := ⟨rfl, rfl, rfl, by decide +kernel, rfl, by decide +kernel, by decide +kernel⟩
abbrev s__law_notes : Stmt := topS 15
abbrev N__law_notes : List Str := ["_law_well_here", "_law_moments", "_law_names", "_law_found", "_law_at", "_law_name", "_law_clock", "_law_turn"]
abbrev ps__law_notes : List Str := ["_law_well_here", "_law_moments", "_law_names"]
theorem sc__law_notes : FnScope N__law_notes ps__law_notes (defScope s__law_notes) := ⟨rfl, rfl, rfl, by decide +kernel, rfl, by decide +kernel, by decide +kernel⟩
abbrev s_law : Stmt := topS 16
abbrev N_law : List Str := ["_law_script", "_law_cell", "_law_well_here", "_law_names", "_law_clocks_so", "_law_moments", "_law_turn", "_law_notes_here", "_law_span", "_law_kept", "_law_due_here", "_law_turned", "_law_name", "_law_table"]
abbrev ps_law : List Str := ["_law_script"]
theorem sc_law : FnScope N_law ps_law (defScope s_law) := ⟨rfl, rfl, rfl, by decide +kernel, rfl, by decide +kernel, by decide +kernel⟩
abbrev FnP (K : PySem.W.Frag) (x : Str) (st : Stmt) (dvs : List V) (fd : FuncData) : Prop := FunD K x x (defArgs st) (defBody st) (defScope st) dvs [] (He.ga K x) fd
structure Txt (K : PySem.W.Frag) (mg : Str → Option Value) : Prop where
  g_is_integer : mg "is_integer" = some (.ref (He.ga K "is_integer"))
  d_is_integer : ∃ fd, FnP K "is_integer" s_is_integer [] fd
  g_check_ticks : mg "check_ticks" = some (.ref (He.ga K "check_ticks"))
  d_check_ticks : ∃ fd, FnP K "check_ticks" s_check_ticks [] fd
  g_both_lead : mg "both_lead" = some (.ref (He.ga K "both_lead"))
  d_both_lead : ∃ fd, FnP K "both_lead" s_both_lead [] fd
  g__law_cell_at : mg "_law_cell_at" = some (.ref (He.ga K "_law_cell_at"))
  d__law_cell_at : ∃ fd, FnP K "_law_cell_at" s__law_cell_at [] fd
  g__law_well : mg "_law_well" = some (.ref (He.ga K "_law_well"))
  d__law_well : ∃ fd, FnP K "_law_well" s__law_well [] fd
  g__law_draw : mg "_law_draw" = some (.ref (He.ga K "_law_draw"))
  d__law_draw : ∃ fd, FnP K "_law_draw" s__law_draw [] fd
  g__law_one : mg "_law_one" = some (.ref (He.ga K "_law_one"))
  d__law_one : ∃ fd, FnP K "_law_one" s__law_one [] fd
  g__law_due : mg "_law_due" = some (.ref (He.ga K "_law_due"))
  d__law_due : ∃ fd, FnP K "_law_due" s__law_due [] fd
  g__law_notes : mg "_law_notes" = some (.ref (He.ga K "_law_notes"))
  d__law_notes : ∃ fd, FnP K "_law_notes" s__law_notes [] fd
  g_law : mg "law" = some (.ref (He.ga K "law"))
  d_law : ∃ fd, FnP K "law" s_law [] fd
  g_PlaneError : mg "PlaneError" = some (.ref (He.ga K "PlaneError"))
  g_BadValue : mg "BadValue" = some (.ref (He.ga K "BadValue"))
  n_len : mg "len" = none
  n_int : mg "int" = none
  n_bool : mg "bool" = none
  n_dict : mg "dict" = none
  n_range : mg "range" = none
  n_isinstance : mg "isinstance" = none
  n_max : mg "max" = none
  n_sorted : mg "sorted" = none
  n_enumerate : mg "enumerate" = none
  n_repr : mg "repr" = none
  c_MOST_TICKS : ∃ t, mg "MOST_TICKS" = some (.int 999 t)
theorem bi_is_integer {K : PySem.W.Frag} {fd : FuncData} (F : FnP K "is_integer" s_is_integer [] fd) : Binds K fd ps_is_integer [] := F.bindsN (fun _ _ _ _ _ _ us hl => match us, hl with | [_], _ => rfl)
theorem bi_check_ticks {K : PySem.W.Frag} {fd : FuncData} (F : FnP K "check_ticks" s_check_ticks [] fd) : Binds K fd ps_check_ticks [] := F.bindsN (fun _ _ _ _ _ _ us hl => match us, hl with | [_, _], _ => rfl)
theorem bi_both_lead {K : PySem.W.Frag} {fd : FuncData} (F : FnP K "both_lead" s_both_lead [] fd) : Binds K fd ps_both_lead [] := F.bindsN (fun _ _ _ _ _ _ us hl => match us, hl with | [_, _, _], _ => rfl)
theorem bi__law_cell_at {K : PySem.W.Frag} {fd : FuncData} (F : FnP K "_law_cell_at" s__law_cell_at [] fd) : Binds K fd ps__law_cell_at [] := F.bindsN (fun _ _ _ _ _ _ us hl => match us, hl with | [_, _], _ => rfl)
theorem bi__law_well {K : PySem.W.Frag} {fd : FuncData} (F : FnP K "_law_well" s__law_well [] fd) : Binds K fd ps__law_well [] := F.bindsN (fun _ _ _ _ _ _ us hl => match us, hl with | [_], _ => rfl)
theorem bi__law_draw {K : PySem.W.Frag} {fd : FuncData} (F : FnP K "_law_draw" s__law_draw [] fd) : Binds K fd ps__law_draw [] := F.bindsN (fun _ _ _ _ _ _ us hl => match us, hl with | [_, _], _ => rfl)
theorem bi__law_one {K : PySem.W.Frag} {fd : FuncData} (F : FnP K "_law_one" s__law_one [] fd) : Binds K fd ps__law_one [] := F.bindsN (fun _ _ _ _ _ _ us hl => match us, hl with | [_, _], _ => rfl)
theorem bi__law_due {K : PySem.W.Frag} {fd : FuncData} (F : FnP K "_law_due" s__law_due [] fd) : Binds K fd ps__law_due [] := F.bindsN (fun _ _ _ _ _ _ us hl => match us, hl with | [_, _, _], _ => rfl)
theorem bi__law_notes {K : PySem.W.Frag} {fd : FuncData} (F : FnP K "_law_notes" s__law_notes [] fd) : Binds K fd ps__law_notes [] := F.bindsN (fun _ _ _ _ _ _ us hl => match us, hl with | [_, _, _], _ => rfl)
theorem bi_law {K : PySem.W.Frag} {fd : FuncData} (F : FnP K "law" s_law [] fd) : Binds K fd ps_law [] := F.bindsN (fun _ _ _ _ _ _ us hl => match us, hl with | [_], _ => rfl)

/-! ### the heap: what a def with a source of draws leaves -/
/-- all that was tracked, but what stands at a, is as it was -/
def Keep (a : Addr) (H H' : Hp) : Prop := ∀ b o, b ≠ a → H b = some o → H' b = some o
theorem Keep.refl (a : Addr) (H : Hp) : Keep a H H := fun _ _ _ h => h
theorem Keep.trans {a : Addr} {H H1 H2 : Hp} (x : Keep a H H1) (y : Keep a H1 H2) : Keep a H H2 := fun b o n h => y b o n (x b o n h)
theorem Keep.of {a : Addr} {H H1 : Hp} (x : Same H H1) : Keep a H H1 := fun b o _ h => x b o h
theorem Keep.at_ {a : Addr} {H : Hp} {u : HO} : Keep a H (upd H a u) := fun b o n h => by rw [upd_ne n]; exact h
theorem Same.new {H : Hp} {p : Addr} {u : HO} (n : H p = none) : Same H (upd H p u) := fun b o h => by rw [upd_ne (ne_of_none h n)]; exact h
theorem Keep.new {a : Addr} {H : Hp} {p : Addr} {u : HO} (n : H p = none) : Keep a H (upd H p u) := Keep.of (Same.new n)
theorem Keep.seqL {K : PySem.W.Frag} {a b : Addr} {H H1 : Hp} {xs : List V} (x : Keep a H H1) (n : b ≠ a) (h : SqL K H b xs) : SqL K H1 b xs := by
  rcases h with (h | ⟨o, h⟩) | h
  · exact .inl (.inl (x _ _ n h))
  · exact .inl (.inr ⟨o, x _ _ n h⟩)
  · exact .inr h
theorem Keep.seqT {K : PySem.W.Frag} {a b : Addr} {H H1 : Hp} {xs : List V} (x : Keep a H H1) (n : b ≠ a) (h : SqT K H b xs) : SqT K H1 b xs := by
  rcases h with (h | ⟨o, h⟩) | h
  · exact .inl (.inl (x _ _ n h))
  · exact .inl (.inr ⟨o, x _ _ n h⟩)
  · exact .inr h
/-- a flat value: None, a bool, an int, a text -/
def flat : V → Prop
  | .non => True
  | .bl _ => True
  | .int _ => True
  | .str _ => True
  | _ => False
def tyNm : V → Value
  | .non => .type "NoneType"
  | .bl _ => .type "bool"
  | .int _ => .type "int"
  | _ => .type "str"
theorem flat_ty {K : PySem.W.Frag} {H : Hp} {x : V} (h : flat x) : TyX K H x (tyNm x) := by
  cases x with
  | non => exact .base .non
  | bl b => exact .base (.bl b)
  | int i => exact .base (.int i)
  | str z => exact .base (.str z)
  | byt _ => exact h.elim
  | flt _ => exact h.elim
  | ref _ => exact h.elim
  | ty _ => exact h.elim
theorem small3 : (3 : Nat) ≤ sizeLine := by rw [sizeLine_eq]; decide
theorem smallN {n : Nat} (h : n ≤ 1000) : n ≤ sizeLine := Nat.le_of_lt (small1000 h)
theorem yes_ {σ : L2.St} {H : Hp} {Q : Bool → Hp → Prop} (h : Q true H) : tYes σ H Q := h
theorem get_take {α : Type} {xs : List α} {i : Nat} {x : α} (h : xs[i]? = some x) : xs.take (i + 1) = xs.take i ++ [x] := by
  rw [List.take_succ, h]; rfl
theorem mem_at {α : Type} {xs : List α} {i : Nat} {x : α} (h : xs[i]? = some x) : x ∈ xs := List.mem_of_getElem? h
theorem lt_at {α : Type} {xs : List α} {i : Nat} {x : α} (h : xs[i]? = some x) : i < xs.length := (List.getElem?_eq_some_iff.mp h).1
/-! ### flat values as data -/
def dOf : V → PyData
  | .bl b => .bool b
  | .int i => .int i
  | .str z => .str z
  | _ => .none
theorem dp_flat {K : PySem.W.Frag} {H : Hp} {x : V} (h : flat x) : Dp K H x (dOf x) := by
  cases x with
  | non => exact .non
  | bl b => exact .bl b
  | int i => exact .int i
  | str z => exact .str z
  | byt _ => exact h.elim
  | flt _ => exact h.elim
  | ref _ => exact h.elim
  | ty _ => exact h.elim
theorem dps_flat {K : PySem.W.Frag} {H : Hp} : ∀ {xs : List V}, (∀ x ∈ xs, flat x) → DpAll K H xs (xs.map dOf)
  | [], _ => .nil
  | x :: xs, h => .cons (dp_flat (h x (List.mem_cons_self ..))) (dps_flat fun y hy => h y (List.mem_cons_of_mem _ hy))
/-- a text of signs that there are -/
def okS : V → Prop
  | .str z => PyData.strOk z = true
  | _ => True
theorem lay_flat {x : V} (h : okS x) : (dOf x).canLay0 = true := by
  cases x with
  | str z => exact (show PyData.canLay0 (.str z) = true by simpa [PyData.canLay0, okS] using h)
  | _ => simp [dOf, PyData.canLay0]
theorem lays_flat : ∀ {xs : List V}, (∀ x ∈ xs, okS x) → PyData.canLayAll0 (xs.map dOf) = true
  | [], _ => by simp [PyData.canLayAll0]
  | x :: xs, h => by simp [PyData.canLayAll0, lay_flat (h x (List.mem_cons_self ..)), lays_flat (xs := xs) fun y hy => h y (List.mem_cons_of_mem _ hy)]
theorem dep_flat (x : V) : (dOf x).depth = 0 := by cases x <;> simp [dOf, PyData.depth]
theorem deps_flat : ∀ xs : List V, PyData.depthAll (xs.map dOf) = 0
  | [] => by simp [PyData.depthAll]
  | x :: xs => by simp [PyData.depthAll, dep_flat x, deps_flat xs]
theorem sh_flat {x : V} (h : okS x) : SeqAt.shaped (dOf x) = true := by simp [SeqAt.shaped, lay_flat h, dep_flat x]
theorem sh_list {xs : List V} (h : ∀ x ∈ xs, okS x) : SeqAt.shaped (.list (xs.map dOf)) = true := by simp [SeqAt.shaped, PyData.canLay0, PyData.depth, lays_flat h, deps_flat xs]
theorem sh_tup {xs : List V} (h : ∀ x ∈ xs, okS x) : SeqAt.shaped (.tuple (xs.map dOf)) = true := by simp [SeqAt.shaped, PyData.canLay0, PyData.depth, lays_flat h, deps_flat xs]
theorem eqv_nil (xs : List V) : PyData.eqv (.list (xs.map dOf)) (.list []) = xs.isEmpty := by
  cases xs <;> simp [PyData.eqv, PyData.eqvAll]
/-- len of a list or a tuple, within a comprehension -/
def rLenK (K : PySem.W.Frag) : List V → Hp → VK → Prop := fun xs H Q => ∃ p ys, xs = [V.ref p] ∧ (SqL K H p ys ∨ SqT K H p ys) ∧ Q (V.int ys.length) H
/-- dict(pairs), within a comprehension -/
def rDictP (K : PySem.W.Frag) : List V → Hp → VK → Prop := fun xs H Q => ∃ (a : Addr) (ps : List Addr) (kvs : List (Key × V)), xs = [.ref a] ∧ SqL K H a (ps.map V.ref) ∧ Paired (fun p kv => SqT K H p [kV kv.1, kv.2]) ps kvs ∧
  ∀ p, H p = none → Q (.ref p) (upd H p (.dK (mergeK [] kvs)))
theorem lay_same {H H' : Hp} {l : Addr} {u : HO} (e : upd H l u = H') (h : H l = none) : Same H H' := e ▸ Same.new h
theorem lay_at {H H' : Hp} {l : Addr} {u : HO} (e : upd H l u = H') : H' l = some u := e ▸ upd_same

/-! ### the source of draws: [digits, a number, a count] -/
def WellO (u : HO) (n : Nat) : Prop := ∃ x y : Int, u = .lst [.int x, .int y, .int (n : Int)]
def WellAt (H : Hp) (a : Addr) (n : Nat) : Prop := ∃ u, H a = some u ∧ WellO u n
def sp__law_cell_at (K : PySem.W.Frag) : Sp := fun vs H Q _ => ∃ (a : Addr) (ns : List Int), vs = [.ref a, .int 0] ∧ SqL K H a (ns.map V.int) ∧ ∀ i : Int, Q (.int i) H
theorem ok__law_cell_at {P : Program} {w : World} {K : PySem.W.Frag} {mg : Str → Option Value} {base : Heap} {fd : FuncData} (T : Txt K mg) (F : FnP K "_law_cell_at" s__law_cell_at [] fd) : FnOk P w K mg base CX0 1 (He.ga K "_law_cell_at") fd ps__law_cell_at (sp__law_cell_at K) := by
  refine F.ok sc__law_cell_at (fun vs H Q E h => ?len) (fun cdv A outer s H vs Q E hr h => ?body)
  case len => obtain ⟨a, ns, rfl, hS, k⟩ := h; rfl
  case body =>
  obtain ⟨a, ns, rfl, hS, k⟩ := h
  have hu := hu_of hr
  refine ⟨_, PSs.nox (pss_cons (ps_if (pt_cmpR op_lt (pv 1) (pe_callB call_len_seq (by rfl) T.n_len (by decide +kernel) (pa_cons (pv 0) pa_nil)) (nomark _)) (pss_one (ps_ret (pe_ix ix_list (pv 0) (pv 1) (fun _ _ => rfl)))) pss_nil)
    (pss_one (ps_ret pe_int))), ?_⟩
  refine ⟨_, rfl, _, rfl, a, _, rfl, .inl hS, _, _, rfl, rfl, _, rfl, ?_⟩
  refine ite2 (fun hlt => ?_) (fun _ => k 0)
  cases ns with
  | nil => simp at hlt
  | cons i r => exact ⟨_, rfl, _, rfl, a, _, 0, .int i, rfl, rfl, hS, atI_nat (j := 0) rfl, k i⟩
def sp__law_well (K : PySem.W.Frag) : Sp := fun vs H Q _ => ∃ (i : Int), vs = [.int i] ∧ ∀ (a : Addr) (u : HO), H a = none → WellO u 0 → Q (.ref a) (upd H a u)
theorem ok__law_well {P : Program} {w : World} {K : PySem.W.Frag} {mg : Str → Option Value} {base : Heap} {fd : FuncData} (T : Txt K mg) (F : FnP K "_law_well" s__law_well [] fd) : FnOk P w K mg base CX0 1 (He.ga K "_law_well") fd ps__law_well (sp__law_well K) := by
  refine F.ok sc__law_well (fun vs H Q E h => ?len) (fun cdv A outer s H vs Q E hr h => ?body)
  case len => obtain ⟨i, rfl, k⟩ := h; rfl
  case body =>
  obtain ⟨i, rfl, k⟩ := h
  have hu := hu_of hr
  refine ⟨_, PSs.nox (pss_one (ps_ret (pe_lst (pa_cons (pe_op op_mul (pv 0) (pe_callTy call_int1 (by rfl) T.n_int (by decide +kernel) (pa_cons (pe_cmpR op_ge (pv 0) (pe_op op_pow pe_int pe_int) (nomark _)) pa_nil))) (pa_cons (pv 0) (pa_cons pe_int pa_nil)))))), ?_⟩
  refine ⟨_, rfl, _, rfl, _, _, rfl, rfl, ⟨by decide, by decide, by decide⟩, _, _, rfl, rfl, .inr ⟨_, rfl, _, _, rfl, rfl, .inr ?_, _, rfl, smallN (by show 3 ≤ 1000; decide), fun p hp => k p _ hp ⟨_, _, rfl⟩⟩⟩
  split <;> constructor <;> decide
/-- a number from 0 to m - 1; the source goes on -/
def sp__law_draw (K : PySem.W.Frag) : Sp := fun vs H Q _ => ∃ (a : Addr) (n : Nat) (m : Int), vs = [.ref a, .int m] ∧ WellAt H a n ∧ n < 1000000 ∧ 0 < m ∧ m ≤ 1000000000 ∧
  ∀ (r : Int) (u : HO) (n' : Nat), 0 ≤ r → r < m → n' ≤ n + 1 → WellO u n' → Q (.int r) (upd H a u)
theorem natAbs_lt64 {z : Int} (h1 : -(2 ^ 40) < z) (h2 : z < 2 ^ 40) : z.natAbs < 2 ^ 64 := by omega
theorem mod_lt' (z : Int) {m : Int} (h : 0 < m) : 0 ≤ z % m ∧ z % m < m := ⟨Int.emod_nonneg _ (by omega), Int.emod_lt_of_pos _ h⟩
theorem wdiv {i j : Int} (h : 0 < j) (h2 : j ≤ 2 ^ 32) : CDivW i j := wide_div (b := 40) h (by omega) (by decide) (by decide)
theorem ok__law_draw {P : Program} {w : World} {K : PySem.W.Frag} {mg : Str → Option Value} {base : Heap} {fd : FuncData} (T : Txt K mg) (F : FnP K "_law_draw" s__law_draw [] fd) : FnOk P w K mg base CX0 1 (He.ga K "_law_draw") fd ps__law_draw (sp__law_draw K) := by
  refine F.ok sc__law_draw (fun vs H Q E h => ?len) (fun cdv A outer s H vs Q E hr h => ?body)
  case len => obtain ⟨a, n, m, rfl, ⟨u, hu0, x, y, rfl⟩, hn, hm, hm2, k⟩ := h; rfl
  case body =>
  obtain ⟨a, n, m, rfl, ⟨u, hu0, x, y, rfl⟩, hn, hm, hm2, k⟩ := h
  have hu := hu_of hr
  refine ⟨_, PSs.nox (pss_cons (ps_if (pt_cmpR op_gt (pe_ix ix_list (pv 0) pe_int (fun _ _ => rfl)) pe_int (nomark _)) (pss_cons (ps_set (i := 2) sc__law_draw.nd rfl (Or.inl rfl) (pe_op op_mod (pe_callTy call_int1 (by rfl) T.n_int (by decide +kernel) (pa_cons (pe_ix ix_list (pv 0) pe_int (fun _ _ => rfl)) pa_nil)) (pv 1)))
      (pss_cons (ps_asg (pe_op op_fdivW (pe_ix ix_list (pv 0) pe_int (fun _ _ => rfl)) (pv 1)) (pg_sub (pv 0) pe_int set_list))
      (pss_one (ps_ret (pv 2))))) pss_nil)
    (pss_cons (ps_asg (pe_op op_add (pe_ix ix_list (pv 0) pe_int (fun _ _ => rfl)) pe_int) (pg_sub (pv 0) pe_int set_list))
    (pss_cons (ps_set (i := 3) sc__law_draw.nd rfl (Or.inl rfl) (pe_op op_mod (pe_callTy call_int1 (by rfl) T.n_int (by decide +kernel) (pa_cons (pe_op op_fdivW (pe_ix ix_list (pv 0) pe_int (fun _ _ => rfl)) pe_int) pa_nil)) pe_int))
    (pss_cons (ps_set (i := 4) sc__law_draw.nd rfl (Or.inl rfl) (pe_op op_add (pe_op op_add (pe_op op_add (pe_op op_mod (pe_callTy call_int1 (by rfl) T.n_int (by decide +kernel) (pa_cons (pe_ix ix_list (pv 0) pe_int (fun _ _ => rfl)) pa_nil)) pe_int) (pe_op op_mul pe_int (pe_ix ix_list (pv 0) pe_int (fun _ _ => rfl)))) (pv 3)) pe_int))
    (pss_cons (ps_set (i := 5) sc__law_draw.nd rfl (Or.inl rfl) (pe_op op_mod (pe_callTy call_int1 (by rfl) T.n_int (by decide +kernel) (pa_cons (pe_op op_pow (pv 4) pe_int) pa_nil)) pe_int))
    (pss_cons (ps_set (i := 5) sc__law_draw.nd rfl (Or.inl rfl) (pe_op op_mod (pe_callTy call_int1 (by rfl) T.n_int (by decide +kernel) (pa_cons (pe_op op_mul (pv 5) (pe_op op_add (pe_op op_add (pe_op op_fdivW (pv 5) pe_int) pe_int) (pe_ix ix_list (pv 0) pe_int (fun _ _ => rfl)))) pa_nil)) pe_int))
    (pss_one (ps_ret (pe_op op_mod (pe_callTy call_int1 (by rfl) T.n_int (by decide +kernel) (pa_cons (pe_op op_mod (pe_callTy call_int1 (by rfl) T.n_int (by decide +kernel) (pa_cons (pe_op op_mul (pv 5) (pe_op op_add (pe_op op_fdivW (pv 5) pe_int) pe_int)) pa_nil)) pe_int) pa_nil)) (pv 1)))))))))), ?_⟩
  have hS : SqL K H a [.int x, .int y, .int (n : Int)] := SqL.of hu0
  refine ⟨_, rfl, a, _, 0, _, rfl, rfl, hS, rfl, _, _, rfl, rfl, _, rfl, ?_⟩
  refine ite2 (fun hx => ?_) (fun hx => ?_)
  · refine ⟨_, rfl, a, _, 0, _, rfl, rfl, hS, rfl, .inl ⟨_, rfl, _, rfl, _, _, rfl, rfl, hm, ?_⟩⟩
    refine ⟨_, rfl, a, _, 0, _, rfl, rfl, hS, rfl, _, rfl, _, _, rfl, rfl, wdiv hm (by omega), _, rfl, a, _, _, 0, rfl, rfl, hu0, rfl, _, rfl, ?_⟩
    exact k _ _ n (mod_lt' x hm).1 (mod_lt' x hm).2 (Nat.le_succ _) ⟨_, _, rfl⟩
  · refine ⟨_, rfl, a, _, 2, _, rfl, rfl, hS, rfl, _, _, rfl, rfl, _, rfl, a, _, _, 2, rfl, rfl, hu0, rfl, ?_⟩
    have hu1 : upd H a (.lst ([.int x, .int y, .int (n : Int)].set 2 (.int ((n : Int) + 1)))) a = some (.lst [.int x, .int y, .int ((n : Int) + 1)]) := upd_same
    have hS1 : SqL K (upd H a (.lst ([.int x, .int y, .int (n : Int)].set 2 (.int ((n : Int) + 1))))) a [.int x, .int y, .int ((n : Int) + 1)] := SqL.of hu1
    refine ⟨_, rfl, a, _, 1, _, rfl, rfl, hS1, rfl, _, _, rfl, rfl, wdiv (by decide) (by decide), .inl ⟨_, rfl, _, _, rfl, rfl, (by show (0 : Int) < 65521; decide), ?_⟩⟩
    refine ⟨_, rfl, a, _, 1, _, rfl, rfl, hS1, rfl, .inl ⟨_, rfl, _, _, rfl, rfl, (by show (0 : Int) < 2147483629; decide), ?_⟩⟩
    have b1 := mod_lt' y (m := 2147483629) (by decide)
    have b2 := mod_lt' (y / 2147483629) (m := 65521) (by decide)
    generalize y % 2147483629 = e1 at b1 ⊢
    generalize y / 2147483629 % 65521 = e2 at b2 ⊢
    refine ⟨_, rfl, a, _, 2, _, rfl, rfl, hS1, rfl, _, _, rfl, rfl, .inl ⟨by decide, by decide⟩, _, _, rfl, rfl, _, rfl, _, _, rfl, rfl, _, _, rfl, rfl, ?_⟩
    refine ⟨_, rfl, _, _, rfl, rfl, ⟨by decide, by decide, natAbs_lt64 (by omega) (by omega)⟩, .inl ⟨_, rfl, _, _, rfl, rfl, (by show (0 : Int) < 2147483647; decide), ?_⟩⟩
    have b3 := mod_lt' ((e1 + 7919 * ((n : Int) + 1) + e2 + 1) ^ (5 : Int).toNat) (m := 2147483647) (by decide)
    generalize (e1 + 7919 * ((n : Int) + 1) + e2 + 1) ^ (5 : Int).toNat % 2147483647 = e3 at b3 ⊢
    refine ⟨_, rfl, _, rfl, _, _, rfl, rfl, wdiv (by decide) (by decide), _, _, rfl, rfl, _, rfl, a, _, 2, _, rfl, rfl, hS1, rfl, _, _, rfl, rfl, _, _, rfl, rfl, .inl ⟨by omega, by omega⟩, .inl ⟨_, rfl, _, _, rfl, rfl, (by show (0 : Int) < 2147483629; decide), ?_⟩⟩
    have b4 := mod_lt' (e3 * (e3 / 1009 + 69621 + ((n : Int) + 1))) (m := 2147483629) (by decide)
    generalize e3 * (e3 / 1009 + 69621 + ((n : Int) + 1)) % 2147483629 = e4 at b4 ⊢
    refine ⟨_, rfl, _, rfl, _, _, rfl, rfl, wdiv (by decide) (by decide), _, _, rfl, rfl, _, _, rfl, rfl, .inl ⟨by omega, by omega⟩, .inl ⟨_, rfl, _, _, rfl, rfl, (by show (0 : Int) < 2147483399; decide), .inl ⟨_, rfl, _, rfl, _, _, rfl, rfl, hm, ?_⟩⟩⟩
    exact k _ _ (n + 1) (mod_lt' _ hm).1 (mod_lt' _ hm).2 (Nat.le_refl _) ⟨_, _, rfl⟩

/-! ### one of some values -/
theorem well_ne {H : Hp} {a b : Addr} {n : Nat} {o : HO} (h : WellAt H a n) (hb : H b = some o) (ho : ∀ xs, o = .lst xs → xs.length ≠ 3) : b ≠ a := by
  obtain ⟨u, hu, x, y, rfl⟩ := h
  exact ne_of hb hu fun z => ho _ z rfl
theorem well_ne3 {H : Hp} {a p : Addr} {n : Nat} (h : WellAt H a n) (hp : H p = none) : p ≠ a := by
  obtain ⟨u, hu, _⟩ := h
  exact fun z => by rw [z, hu] at hp; cases hp
theorem well_upd {H : Hp} {a : Addr} {n : Nat} {u : HO} (h : WellO u n) : WellAt (upd H a u) a n := ⟨u, upd_same, h⟩
theorem well_new {H : Hp} {a p : Addr} {n : Nat} {u : HO} (h : WellAt H a n) (hp : H p = none) : WellAt (upd H p u) a n := by
  obtain ⟨v, hv, w⟩ := h
  exact ⟨v, by rw [upd_ne (ne_of_none hv hp)]; exact hv, w⟩
def sp__law_one (K : PySem.W.Frag) : Sp := fun vs H Q _ => ∃ (a b : Addr) (n : Nat) (ys : List V), vs = [.ref a, .ref b] ∧ WellAt H a n ∧ n < 1000000 ∧ H b = some (.lst ys) ∧ b ≠ a ∧ 0 < ys.length ∧ ys.length ≤ 1000 ∧
  ∀ (y : V) (u : HO) (n' : Nat), y ∈ ys → n' ≤ n + 1 → WellO u n' → Q y (upd H a u)
theorem ok__law_one {P : Program} {w : World} {K : PySem.W.Frag} {mg : Str → Option Value} {base : Heap} {fd : FuncData} (T : Txt K mg) (F : FnP K "_law_one" s__law_one [] fd) : FnOk P w K mg base CX0 2 (He.ga K "_law_one") fd ps__law_one (sp__law_one K) := by
  obtain ⟨fd__law_draw, F__law_draw⟩ := T.d__law_draw
  have G__law_draw := ok__law_draw (P := P) (w := w) (base := base) T F__law_draw
  have k__law_draw := F__law_draw.kp
  have b__law_draw := bi__law_draw F__law_draw
  refine F.ok sc__law_one (fun vs H Q E h => ?len) (fun cdv A outer s H vs Q E hr h => ?body)
  case len => obtain ⟨a, b, n, ys, rfl, hw, hn, hb, hne, h0, h1, k⟩ := h; rfl
  case body =>
  obtain ⟨a, b, n, ys, rfl, hw, hn, hb, hne, h0, h1, k⟩ := h
  have hu := hu_of hr
  refine ⟨_, PSs.nox (pss_one (ps_ret (pe_ix ix_list (pv 1) (pe_call G__law_draw (hr.mono (by first | decide | omega)) rfl T.g__law_draw k__law_draw b__law_draw .nil pass0 (pa_cons (pv 0) (pa_cons (pe_callB call_len_seq (by rfl) T.n_len (by decide +kernel) (pa_cons (pv 1) pa_nil)) pa_nil))) (fun _ _ => rfl)))), ?_⟩
  refine ⟨_, rfl, _, rfl, _, rfl, b, ys, rfl, .inl (SqL.of hb), a, n, _, rfl, hw, hn, (by omega), (by omega), fun r u n' r0 r1 hn' hu' => ?_⟩
  have hb' : upd H a u b = some (.lst ys) := by rw [upd_ne hne]; exact hb
  obtain ⟨j, rfl⟩ := Int.eq_ofNat_of_zero_le r0
  have hj : j < ys.length := by omega
  have e : ys[j]? = some ys[j] := List.getElem?_eq_getElem hj
  exact ⟨b, ys, _, ys[j], rfl, rfl, SqL.of hb', atI_nat e, k _ u n' (List.getElem_mem hj) hn' hu'⟩

/-! ### defs that ask repr: they run where no repr is under way -/
structure FnG (P : Program) (w : World) (K : PySem.W.Frag) (mg : Str → Option Value) (base : Heap) (CX : CXT) (k : Nat) (f : Addr) (fd : FuncData) (ps : List Str) (sp : Sp) : Prop where
  len : ∀ vs H Q E, sp vs H Q E → vs.length = ps.length
  run : ∀ (A : Around) (outer : List Env) (s : Shared) (H : Hp) (args : Args) (us : List Value) (vs : List V) (Q : VK) (E : XK), Room k A → A.guards = some [] →
    Env0 P w K mg base A outer s H → BindsTo s fd args (ps.zip us) → Vals vs us → sp vs H Q E →
      codeAny (model P w) A (.call (.ref f) args) (CR CX outer P w H s Q E) s
section
variable {P : Program} {w : World} {K : PySem.W.Frag} {mg : Str → Option Value} {base : Heap} {CX : CXT} {k : Nat} {f : Addr} {fd : FuncData} {ps : List Str} {sp : Sp}
/-- more room does no harm -/
theorem FnG.mono {j : Nat} (F : FnG P w K mg base CX j f fd ps sp) (le : j ≤ k) : FnG P w K mg base CX k f fd ps sp where
  len := F.len
  run A outer s H args us vs Q E room := F.run A outer s H args us vs Q E (room.mono le)
/-- a def's body walked there: the body is asked at the def's own code value, whatever is known of it (Z) -/
theorem okAt {x qual : Str} {params : Arguments} {body : List Stmt} {scope : Scope} {dvs : List V} {kws : List (Str × V)} {N : List Str} {Z : Value → Prop} (F : FunD K x qual params body scope dvs kws f fd) (S : FnScope N ps scope)
    (known : ∀ {cdv : Value} {oc dV kV doc pm ct : Value} {an od : Option Addr} {osl : Array (Option Value)}, K.lookup f = some ⟨oc, od, .func (PySem.W.fnOf x qual params body scope dV kV doc pm an cdv ct), osl⟩ → PySem.W.codeIn K cdv qual = true → Z cdv)
    (len : ∀ vs H Q E, sp vs H Q E → vs.length = ps.length)
    (walk : ∀ (cdv : Value), Z cdv → ∀ (A : Around) (outer : List Env) (s : Shared) (H : Hp) (vs : List V) (Q : VK) (E : XK), Room k (A.deeper (envOfC qual scope s.heap.objs.size f cdv)) → A.guards = some [] → sp vs H Q E →
      ∃ t, PSs (cxOf CX P w K mg base N qual scope f cdv A outer s H E) body t ∧ t { nx := fun _ H' => Q .non H', rt := Q } (L2.start N vs) H) : FnG P w K mg base CX (k + 1) f fd ps sp := by
  obtain ⟨_, _, _, _, _, _, _, cdv, _, _, rfl, there, code, _⟩ := F.ex
  exact { len := len, run := fun A outer s H args us vs Q E room quiet env bind_ vals want => LamX.run_ofS there code S room env bind_ vals (len _ _ _ _ want) fun room1 => walk cdv (known there code) A outer s H vs Q E room1 quiet want }
theorem okG {x qual : Str} {params : Arguments} {body : List Stmt} {scope : Scope} {dvs : List V} {kws : List (Str × V)} {N : List Str} (F : FunD K x qual params body scope dvs kws f fd) (S : FnScope N ps scope) (len : ∀ vs H Q E, sp vs H Q E → vs.length = ps.length)
    (walk : ∀ (cdv : Value) (A : Around) (outer : List Env) (s : Shared) (H : Hp) (vs : List V) (Q : VK) (E : XK), Room k (A.deeper (envOfC qual scope s.heap.objs.size f cdv)) → A.guards = some [] → sp vs H Q E →
      ∃ t, PSs (cxOf CX P w K mg base N qual scope f cdv A outer s H E) body t ∧ t { nx := fun _ H' => Q .non H', rt := Q } (L2.start N vs) H) : FnG P w K mg base CX (k + 1) f fd ps sp :=
  okAt (Z := fun _ => True) F S (fun _ _ => trivial) len fun cdv _ => walk cdv
end
/-- what a run of it leaves is what its caller's reading asks -/
theorem FnG.told {X : Cx} {CX : CXT} {k : Nat} {f : Addr} {fd : FuncData} {ps : List Str} {sp : Sp} {dvs : List V} {ds us : List Value} {vs : List V} {E : XK} {pins : List (Addr × Obj)} {σ : L2.St} {H : Hp} {s : Shared} {Q : VK} (F : FnG X.prog X.w X.K X.mg X.base CX k f fd ps sp) (room : Room k X.A) (quiet : X.A.guards = some [])
    (bind_ : L2.Binds X.K fd ps ds) (dflt : Vals dvs ds) (pass : Passes CX X E) (I : Inv X pins σ H s) (vals : Vals vs us) (want : sp (vs ++ dvs) H Q E) : wpAny (model X.prog X.w) X.A (call (.ref f) us) (EP X pins σ Q) X.xe s :=
  have all := vals.append dflt
  wpAny_call <| codeAny_mono (F.run X.A X.stack s H ⟨us, []⟩ _ _ Q E room quiet I.env0 (bind_ s us I.kIn (all.length ▸ F.len _ _ _ _ want)) all want) fun r s' done => match r, done with
    | .error er, done => pass pins σ H s er s' I done
    | .ok (.ret u), done => I.after done
/-- its call -/
theorem pe_callG {X : Cx} {CX : CXT} {k : Nat} {f : Addr} {fd : FuncData} {ps : List Str} {sp : Sp} {dvs : List V} {ds : List Value} {E : XK} {x : Str} {p pos : Pos} {e : Expr} {es : List Expr} {t : TA}
    (F : FnG X.prog X.w X.K X.mg X.base CX k f fd ps sp) (hr : Room k X.A) (hG : X.A.guards = some []) (hg : Gl X x) (hm : X.mg x = some (.ref f)) (hk : PySem.W.keepIn X.K (.ref f) = true) (hb : L2.Binds X.K fd ps ds) (hd : Vals dvs ds)
    (hx : Passes CX X E) (ha : PA X (e :: es) t) (hdb : (x == ("__debug__" : Str)) = false := by decide) (he : starEach (e :: es) X.env = (false, eval e X.env) :: starEach es X.env := by rfl)
    (hpl : (backTo pos (starEach es X.env)).any (·.1) = false := by rfl) : PE X (.Call (.Name x p) (e :: es) [] pos) (tCall sp dvs E t) :=
  ⟨fun pins s σ H Q I want => wpAny_Call_Name_kw <| ld_glob I hg hm (PySem.W.callWith_K (h₀ := X.base) I.ok.mod.kin hk (thn (ha.run pos pins s σ H _ I want) fun us s1 ⟨vs, H1, I1, vals, want1⟩ => ⟨I1.kIn, F.told hr hG hb hd hx I1 vals want1⟩) he hpl) hdb⟩
/-! ### what repr shows: v is the data d, in every state that H tells -/
def Shw (K : PySem.W.Frag) (H : Hp) (v : V) (d : PyData) : Prop := ∀ (X : Cx) (pins : List (Addr × Obj)) (σ : L2.St) (s : Shared) (u : Value), X.K = K → Inv X pins σ H s → RelV v u → ∃ as, Reads s.heap u d as ∧ sysModules ∉ as
theorem shw_flat {K : PySem.W.Frag} {H : Hp} {v : V} (h : flat v) : Shw K H v (dOf v) := fun X pins σ s u _ I r => by
  cases v with
  | non => cases r; exact ⟨_, .none, by simp⟩
  | bl b => cases r; exact ⟨_, .bool b, by simp⟩
  | int i => obtain ⟨t, rfl⟩ := r; exact ⟨_, .int i t, by simp⟩
  | str z => obtain ⟨t, rfl⟩ := r; exact ⟨_, .str z t, by simp⟩
  | byt _ => exact h.elim
  | flt _ => exact h.elim
  | ref _ => exact h.elim
  | ty _ => exact h.elim
theorem shw_all {K : PySem.W.Frag} {H : Hp} {X : Cx} {pins : List (Addr × Obj)} {σ : L2.St} {s : Shared} (e : X.K = K) (I : Inv X pins σ H s) : ∀ {xs : List V} {ds : List PyData} {us : List Value}, Paired (Shw K H) xs ds → Vals xs us → ∃ as, ReadsAll s.heap us ds as ∧ sysModules ∉ as
  | _, _, _, .nil, .nil => ⟨_, .nil, by simp⟩
  | _, _, _, .cons h t, .cons r q => by
    obtain ⟨as, h1, h2⟩ := h X pins σ s _ e I r
    obtain ⟨bs, h3, h4⟩ := shw_all e I t q
    exact ⟨_, .cons h1 h3, by simp [h2, h4]⟩
theorem shw_tup {K : PySem.W.Frag} {H : Hp} {a : Addr} {xs : List V} {ds : List PyData} (h : SqT K H a xs) (hs : Paired (Shw K H) xs ds) : Shw K H (.ref a) (.tuple ds) := fun X pins σ s u e I r => by
  cases r
  subst e
  obtain ⟨its, rv, ⟨o, ho, hc, n, hd⟩, _⟩ := I.tuple h
  obtain ⟨as, h1, h2⟩ := shw_all rfl I hs rv
  exact ⟨_, .tuple ho hc hd h1, h2⟩
theorem shw_lst {K : PySem.W.Frag} {H : Hp} {a : Addr} {xs : List V} {ds : List PyData} (h : SqL K H a xs) (n1 : a ≠ sysModules) (hs : Paired (Shw K H) xs ds) : Shw K H (.ref a) (.list ds) := fun X pins σ s u e I r => by
  cases r
  subst e
  obtain ⟨its, rv, ⟨o, n, ho, hc, _, hd⟩, _⟩ := I.list h
  obtain ⟨as, h1, h2⟩ := shw_all rfl I hs rv
  exact ⟨_, .list ho hc hd h1, by simp [h2, Ne.symm n1]⟩
/-- the data of a key -/
def kD : Key → PyData
  | .inl i => .int i
  | .inr x => .str x
theorem pairs_read {P : Program} {w : World} {h : Heap} : ∀ {es : List DictEntry} {kvs : List (Key × Value)}, Pairs (mixKind P w) es kvs → ReadsAll h (es.map (·.key)) (kvs.map fun p => kD p.1) []
  | _, _, .nil => .nil
  | _, _, .cons (e := e) (kv := kv) hk _ t => by
    have q := pairs_read (h := h) t
    have hk' : keyIs kv.1 e.key = true := hk
    have r : Reads h e.key (kD kv.1) [] := by
      rcases keyIs_shape hk' with ⟨i, t, e1, e2⟩ | ⟨x, t, e1, e2⟩
      · rw [e1, e2]; exact .int i t
      · rw [e1, e2]; exact .str x t
    exact .cons r q
theorem pairs_vals {P : Program} {w : World} : ∀ {es : List DictEntry} {kvs : List (Key × Value)}, Pairs (mixKind P w) es kvs → es.map (·.val) = kvs.map (·.2)
  | _, _, .nil => rfl
  | _, _, .cons _ hv t => by rw [List.map_cons, List.map_cons, hv, pairs_vals t]
theorem kv_split : ∀ {kvs : List (Key × V)} {vs : List (Key × Value)}, KV kvs vs → kvs.map (·.1) = vs.map (·.1) ∧ Vals (kvs.map (·.2)) (vs.map (·.2))
  | _, _, .nil => ⟨rfl, .nil⟩
  | _, _, .cons h t => by
    obtain ⟨h1, h2⟩ := kv_split t
    exact ⟨by rw [List.map_cons, List.map_cons, h.1, h1], .cons h.2 h2⟩
theorem shw_dic {K : PySem.W.Frag} {H : Hp} {a : Addr} {kvs : List (Key × V)} {ps : List (PyData × PyData)} (h : H a = some (.dK kvs)) (h1 : ps.map (·.1) = kvs.map fun p => kD p.1) (hs : Paired (Shw K H) (kvs.map (·.2)) (ps.map (·.2))) : Shw K H (.ref a) (.dict ps) := fun X pins σ s u e I r => by
  cases r
  subst e
  obtain ⟨_, n1, vs, kv, o, es, ep, ho, hx, hd, _, pr, _⟩ := I.hok a _ h
  obtain ⟨k1, k2⟩ := kv_split kv
  have q1 := pairs_read (h := s.heap) pr
  have q2 := pairs_vals pr
  obtain ⟨as, r1, r2⟩ := shw_all rfl I hs k2
  have e1 : (vs.map fun p => kD p.1) = ps.map (·.1) := by
    rw [h1]
    have : (vs.map (·.1)).map kD = (kvs.map (·.1)).map kD := by rw [k1]
    rw [List.map_map, List.map_map] at this; exact this
  rw [e1] at q1
  rw [← q2] at r1
  refine ⟨_, .dict ho hx.1 hd q1 r1, ?_⟩
  have n1' : a ≠ sysModules := by simpa using n1
  simp [r2, Ne.symm n1']
/-- repr(v) -/
def rRepr (K : PySem.W.Frag) : List V → Hp → VK → Prop := fun xs H Q => ∃ (v : V) (d : PyData), xs = [v] ∧ Shw K H v d ∧ d.showable = true ∧ d.depth ≤ 60 ∧ d.shown.length ≤ sizeLine ∧ Q (.str d.shown) H
theorem call_repr {X : Cx} (hG : X.A.guards = some []) (hu : X.A.units + 64 < cLine) : CallR X (.builtin "repr") (rRepr X.K) := by
  intro pins s σ H xs us Q I r h
  obtain ⟨v, d, rfl, hs, h1, h2, h3, q⟩ := h
  obtain ⟨u, rfl, ru⟩ := vals1 r
  obtain ⟨as, hr, hn⟩ := hs X pins σ s u rfl I ru
  cases hr with
  | none => exact PySem.P.repr_of_none ⟨.str _, H, I.tok _, ⟨_, rfl⟩, q⟩
  | bool b => exact PySem.P.repr_of_bool ⟨.str _, H, I.tok _, ⟨_, rfl⟩, q⟩
  | int i t => exact PySem.P.repr_of_int (of_decide_eq_true h1) ⟨.str _, H, I.tok _, ⟨_, rfl⟩, q⟩
  | str x t => exact PySem.P.repr_of_str ⟨.str _, H, I.tok _, ⟨_, rfl⟩, q⟩ h3
  | list a b c e => exact repr_of_reads' (.list a b c e) h1 (fun _ => hn) hG (by omega) (fun _ _ z => z) (fun h' u tk k => ⟨.str _, H, I.kept (t' := tk) k, ⟨_, rfl⟩, q⟩) h3
  | tuple a b c e => exact repr_of_reads' (.tuple a b c e) h1 (fun _ => hn) hG (by omega) (fun _ _ z => z) (fun h' u tk k => ⟨.str _, H, I.kept (t' := tk) k, ⟨_, rfl⟩, q⟩) h3
  | dict a b c e f => exact repr_of_reads' (.dict a b c e f) h1 (fun _ => hn) hG (by omega) (fun _ _ z => z) (fun h' u tk k => ⟨.str _, H, I.kept (t' := tk) k, ⟨_, rfl⟩, q⟩) h3

/-! ### the law is called where no repr is under way: one end, with tables of lambdas (cs) or without -/
open Classical in
/-- what is told of the heap when the law starts: each table is empty, the script is a list of nums that nobody writes (where it is no written thing) -/
noncomputable def startHp (K : PySem.W.Frag) (cs : List (Addr × Addr)) (a : Addr) (vs : List Value) (ns : List Int) : Hp := fun b =>
  if b ∈ cs.map (·.2) then some (.tbl #[]) else if b = a ∧ K.lookup a = none then some (.frz { cls := .type "list", data := .seq vs.toArray } (.lst (ns.map V.int))) else none
section
variable {P : Program} {w : World} {K : PySem.W.Frag} {h : Heap} {cs : List (Addr × Addr)} {a : Addr} {vs : List Value} {ns : List Int}
abbrev scriptO (vs : List Value) : Obj := { cls := .type "list", data := .seq vs.toArray }
abbrev tableO : Obj := { cls := .none, data := .fields #[] }
theorem start_table {b : Addr} (tb : b ∈ cs.map (·.2)) : startHp K cs a vs ns b = some (.tbl #[]) := if_pos tb
theorem start_script (no : a ∉ cs.map (·.2)) (free : K.lookup a = none) : startHp K cs a vs ns a = some (.frz (scriptO vs) (.lst (ns.map V.int))) := (if_neg no).trans (if_pos ⟨rfl, free⟩)
/-- the two ways in which something is told of a place -/
theorem start_told {b : Addr} {u : HO} (told : startHp K cs a vs ns b = some u) : (b ∈ cs.map (·.2) ∧ u = .tbl #[]) ∨ ((b = a ∧ K.lookup a = none) ∧ u = .frz (scriptO vs) (.lst (ns.map V.int))) := by
  unfold startHp at told
  by_cases tb : b ∈ cs.map (·.2)
  · exact .inl ⟨tb, (Option.some.inj ((if_pos tb).symm.trans told)).symm⟩
  · rw [if_neg tb] at told
    by_cases sc : b = a ∧ K.lookup a = none
    · exact .inr ⟨sc, (Option.some.inj ((if_pos sc).symm.trans told)).symm⟩
    · rw [if_neg sc] at told; exact nomatch told
variable (tabs : ∀ b ∈ cs.map (·.2), h.get? b = some tableO) (script : h.get? a = some (scriptO vs))
include tabs script
theorem start_apart : a ∉ cs.map (·.2) := fun tb => nomatch script.symm.trans (tabs a tb)
/-- nothing is told of a place with an object of another shape -/
theorem start_other {b : Addr} {o : Obj} (there : h.get? b = some o) (n1 : o ≠ tableO) (n2 : o ≠ scriptO vs) : startHp K cs a vs ns b = none := by
  match e : startHp K cs a vs ns b with
  | none => rfl
  | some u =>
    rcases start_told e with ⟨tb, _⟩ | ⟨⟨rfl, _⟩, _⟩
    · exact absurd (Option.some.inj (there.symm.trans (tabs b tb))) n1
    · exact absurd (Option.some.inj (there.symm.trans script)) n2
theorem start_ok (nums : IntsAre vs ns) (few : ns.length ≤ sizeLine) : HOk P w (startHp K cs a vs ns) h := fun b u told => by
  rcases start_told told with ⟨tb, rfl⟩ | ⟨⟨rfl, _⟩, rfl⟩
  · exact tabs b tb
  · exact ⟨script, (List.length_map (f := V.int) (as := ns)).symm ▸ few, vs, _, vals_ints nums, script⟩
theorem start_seq (kin : K.In h) (nums : IntsAre vs ns) (few : ns.length ≤ sizeLine) : SqL K (startHp K cs a vs ns) a (ns.map V.int) := by
  match e : K.lookup a with
  | none => exact .inl (.inr ⟨_, start_script (start_apart tabs script) e⟩)
  | some o =>
    have same : o = scriptO vs := Option.some.inj ((kin a o e).symm.trans script)
    subst same
    exact .inr ⟨_, vs.toArray, _, e, rfl, rfl, rfl, by rw [List.size_toArray, nums.length]; exact few, by simpa using vals_ints nums⟩
/-- the rest of the heap, with what is told hidden -/
theorem start_ns {b : Addr} {m : Str → Option Value} (n : h.Ns b m) : (hidT h (startHp K cs a vs ns)).Ns b m :=
  have ⟨o, es, ep, there, dict, r⟩ := n
  ⟨o, es, ep, hidT_get there (start_other tabs script there (fun e => by rw [e] at dict; exact nomatch dict) (fun e => by rw [e] at dict; exact nomatch dict)), dict, r⟩
theorem start_in (kin : K.In h) (out : ∀ b ∈ cs.map (·.2), K.lookup b = none) : K.In (hidT h (startHp K cs a vs ns)) := fun b o look => by
  match e : startHp K cs a vs ns b with
  | none => exact hidT_get (kin b o look) e
  | some u =>
    rcases start_told e with ⟨tb, _⟩ | ⟨⟨rfl, free⟩, _⟩
    · exact nomatch look.symm.trans (out b tb)
    · exact nomatch look.symm.trans free
end
section
variable {P : Program} {w : World} {K : PySem.W.Frag} {mg mb : Str → Option Value} {h : Heap} {cs : List (Addr × Addr)} {a : Addr} {vs : List Value} {ns : List Int}
/-- the module of the builtins, as the head leaves it -/
abbrev BMain (mg : Str → Option Value) (h : Heap) : Prop := ∃ (bm : Addr) (ob : Obj), mg "__builtins__" = some (.ref bm) ∧ bm ≠ builtinsNs ∧ h.get? bm = some ob ∧ ob.cls = .type "module" ∧ ob.dict = some builtinsNs ∧ ob.data = .plain
/-- a place with a dict's payload, a place with a plain one and a table are three places -/
theorem ns_apart {b c : Addr} {m : Str → Option Value} {o : Obj} (n : h.Ns b m) (there : h.get? c = some o) (no : ∀ es ep, o.data ≠ .dict es ep) : b ≠ c := fun e => by
  have ⟨o', es, ep, at_, dict, _⟩ := n
  exact no _ _ (Option.some.inj ((e ▸ at_).symm.trans there) ▸ dict)
theorem start_tab (tabs : ∀ b ∈ cs.map (·.2), h.get? b = some tableO) (script : h.get? a = some (scriptO vs)) (glob : h.Ns mainGlobals mg) (bmain : BMain mg h) {p : Addr × Addr} (hp : p ∈ cs) (code : PySem.W.CodeHd h p.1 p.2) : LamX.TabB (hidT h (startHp K cs a vs ns)) mg p.1 p.2 := by
  have tp := tabs p.2 (List.mem_map_of_mem hp)
  have ⟨bm, ob, b1, b2, b3, b4, b5, b6⟩ := bmain
  refine ⟨?_, ⟨bm, ob, b1, b2, ?_, ?_, hidT_get b3 (start_other tabs script b3 (fun e => ?_) fun e => ?_), b4, b5, b6⟩, ns_apart glob tp fun _ _ z => nomatch z⟩
  · have ⟨o, us, file, tf, flags, tg, inF, text, tt, there, cls, rest⟩ := code
    exact ⟨o, us, file, tf, flags, tg, inF, text, tt, hidT_get there (start_other tabs script there (fun e => by rw [e] at cls; exact nomatch cls) fun e => by rw [e] at cls; exact absurd cls (show ¬ Value.type "list" = Value.type "code" by decide)), cls, rest⟩
  · exact (ns_apart glob b3 fun _ _ z => nomatch b6.symm.trans z).symm
  · intro e
    rw [e, tp] at b3
    cases b3
    cases b6
  · rw [e] at b6; exact nomatch b6
  · rw [e] at b6; exact nomatch b6
end
section
variable {P : Program} {w : World} {K : PySem.W.Frag} {mg mb : Str → Option Value} {CX : CXT} {k : Nat} {fa a : Addr} {cs : List (Addr × Addr)} {fd : FuncData} {x : Str} {sp : Sp} {s₁ : Shared} {vs : List Value} {ns : List Int}
/-- what the run leaves: a table may have grown, all else that was there is as it was -/
theorem left_old {H2 : Hp} {h' : Heap} (tabs : ∀ b ∈ cs.map (·.2), s₁.heap.get? b = some tableO) (script : s₁.heap.get? a = some (scriptO vs)) (code : ∀ p ∈ cs, PySem.W.CodeHd s₁.heap p.1 p.2)
    (un : Un [] [] (startHp K cs a vs ns) H2 s₁.heap h') (ok2 : HOk P w H2 h') : OldK s₁.heap h' := by
  have grown : ∀ b ∈ cs.map (·.2), ∃ more : Array Value, h'.get? b = some { cls := .none, data := .fields (#[] ++ more) } := fun b tb =>
    have ⟨more, told⟩ := un.tbls b #[] (start_table tb)
    ⟨more, ok2 b _ told⟩
  have same : ∀ b o, b ∉ cs.map (·.2) → s₁.heap.get? b = some o → h'.get? b = some o := fun b o no there => by
    match e : startHp K cs a vs ns b with
    | none => exact un.keep b o there e (fun z => nomatch z) (fun z => nomatch z)
    | some u =>
      rcases start_told e with ⟨tb, _⟩ | ⟨⟨rfl, _⟩, rfl⟩
      · exact absurd tb no
      · exact (ok2 b _ (un.frzs b _ _ e)).1.trans (script.symm.trans there)
  refine ⟨fun b o there => ?_, fun b o there => ?_⟩ <;> by_cases tb : b ∈ cs.map (·.2)
  · have ⟨more, now⟩ := grown b tb
    have ⟨p, hp, ep⟩ := List.mem_map.mp tb
    subst ep
    cases there.symm.trans (tabs _ tb)
    exact .inr (.inl ⟨((code p hp).tab (tabs _ tb)).isCodeTable, rfl, #[], more, rfl, now⟩)
  · exact .inl (same b o tb there)
  · have ⟨_, now⟩ := grown b tb; exact ⟨_, now⟩
  · exact ⟨o, same b o tb there⟩
/-- the call of the law: True, and nothing old is another but for tables that have grown -/
theorem law_end (kin : K.In s₁.heap) (glob : s₁.heap.Ns mainGlobals mg) (blt : s₁.heap.Ns builtinsNs mb) (boot : ∀ x : Str, x ≠ "__name__" → mb x = bootBuiltins x) (lim : s₁.heap.NoLimit) (gens : s₁.gens = #[]) (bmain : BMain mg s₁.heap)
    (tabs : ∀ b ∈ cs.map (·.2), s₁.heap.get? b = some tableO) (out : ∀ b ∈ cs.map (·.2), K.lookup b = none) (code : ∀ p ∈ cs, PySem.W.CodeHd s₁.heap p.1 p.2) (script : s₁.heap.get? a = some (scriptO vs)) (nums : IntsAre vs ns) (few : ns.length ≤ sizeLine) (room : Room k callerA)
    (F : ∀ base : Heap, K.In base → base.Ns mainGlobals mg → (∀ p ∈ cs, LamX.TabB base mg p.1 p.2) → FnG P w K mg base CX k fa fd [x] sp) (bind_ : ∀ (s : Shared) (u : Value), BindsTo s fd ⟨[u], []⟩ [(x, u)])
    (spec : ∀ H : Hp, (∀ b ∈ cs.map (·.2), H b = some (.tbl #[])) → SqL K H a (ns.map V.int) → sp [.ref a] H (fun v _ => v = .bl true) fun _ _ _ => False) (never : ∀ H e s', CX [] H s₁ (fun _ _ _ => False) e s' → False) :
    codeAny (model P w) callerA (.call (.ref fa) ⟨[.ref a], []⟩) (fun r s' => r = .ok (.ret (.bool true)) ∧ OldK s₁.heap s'.heap ∧ s'.os = s₁.os ∧ AllBare s'.gens) s₁ := by
  have ok := start_ok (P := P) (w := w) (K := K) tabs script nums few
  have kin' := start_in (ns := ns) tabs script kin out
  have glob' := start_ns (K := K) (ns := ns) tabs script glob
  have lim' : (hidT s₁.heap (startHp K cs a vs ns)).NoLimit := have ⟨mc, n, no⟩ := lim; ⟨mc, start_ns tabs script n, no⟩
  have env : Env0 P w K mg (hidT s₁.heap (startHp K cs a vs ns)) callerA [] s₁ (startHp K cs a vs ns) :=
    ⟨rfl, ⟨kin', glob', ⟨mb, start_ns tabs script blt, boot⟩, lim'⟩, fun _ _ => of_hidT, Nat.le_of_eq (hidT_size ..), trivial, (fun _ z => nomatch z), ok, .of_eq gens⟩
  have run_ := (F _ kin' glob' fun p hp => start_tab tabs script glob bmain hp (code p hp)).run callerA [] s₁ _ ⟨[.ref a], []⟩ [.ref a] [.ref a] _ _ room rfl env (bind_ s₁ (.ref a)) (.cons rfl .nil) (spec _ (fun _ => start_table) (start_seq tabs script kin nums few))
  refine codeAny_mono run_ fun r s2 done => ?_
  match r, done with
  | .error er, done => exact (never _ er s2 done).elim
  | .ok (.ret u), ⟨v, H2, os2, bare2, un, ok2, rel, ev⟩ =>
    cases (show v = .bl true from ev)
    cases (show u = Value.bool true from rel)
    exact ⟨rfl, left_old tabs script code un ok2, os2, bare2⟩
/-- the end of a law that asks repr and makes lambdas -/
theorem walk_ofTG {l : PySem.W.OpenLaw} {n : Nat} {q : Program} {loose : List Str} {XP : (Str → Option Value) → Heap → Prop} {YP : World → Heap → Prop} {d : DefRec} {CX : World → CXT}
    (hn : l.most = some n) (hn2 : n ≤ sizeLine) (hdf : d.params.defaults = []) (room : Room k callerA)
    (F : ∀ (w : World) (mg : Str → Option Value) (fa : Addr) (h : Heap), YP w h → h.Ns mainGlobals mg → mg d.name = some (.ref fa) →
      ∃ (K : PySem.W.Frag), K.In h ∧ ∃ (fd : FuncData) (cs : List (Addr × Addr)) (sp : Sp), (∀ p ∈ cs, h.get? p.2 = some tableO) ∧ (∀ p ∈ cs, K.lookup p.2 = none) ∧ (∀ p ∈ cs, PySem.W.CodeHd h p.1 p.2) ∧ (∀ (s : Shared) (u : Value), BindsTo s fd ⟨[u], []⟩ [(x, u)]) ∧
        (∀ (H : Hp) (a : Addr) (ns : List Int), ns.length ≤ n → (∀ z ∈ ns, Builtin.Int.intBits z ≤ 1048576) → (∀ p ∈ cs, H p.2 = some (.tbl #[])) → SqL K H a (ns.map V.int) → sp [.ref a] H (fun v _ => v = .bl true) fun _ _ _ => False) ∧
        ∀ base : Heap, K.In base → base.Ns mainGlobals mg → (∀ p ∈ cs, LamX.TabB base mg p.1 p.2) → FnG l.prog w K mg base (CX w) k fa fd [x] sp)
    (never : ∀ (w : World) (H : Hp) (s : Shared) (e : Value) (s' : Shared), CX w [] H s (fun _ _ _ => False) e s' → False) : PySem.W.WalkO q loose XP YP l.row.toRowW d [] (fun f vs => PySem.call f vs) :=
  have at2 : ∀ {Z : Addr → Prop} {cs : List (Addr × Addr)}, (∀ p ∈ cs, Z p.2) → ∀ b ∈ cs.map (·.2), Z b := fun all b tb => have ⟨p, hp, e⟩ := List.mem_map.mp tb; e ▸ all p hp
  Att.attach_callB hn hdf fun w s₀ s₁ mg mb fa o pm cd doc a vs ns G Y _ _ _ name script nums len bits gens =>
    have ⟨_, kin, _, _, _, tabs, out, code, bind_, spec, fn⟩ := F w mg fa _ Y G.T.g name
    law_end kin G.T.g G.T.b G.T.builtins G.T.nolimit gens G.T.bmain (at2 tabs) (at2 out) code script nums (Nat.le_trans len hn2) room fn bind_ (fun H told sq => spec H a ns len bits (fun p hp => told _ (List.mem_map_of_mem hp)) sq) fun H e s' => never w H s₁ e s'
/-- .. and of one that makes none -/
theorem walk_ofG {l : PySem.W.OpenLaw} {n : Nat} {q : Program} {loose : List Str} {XP : (Str → Option Value) → Heap → Prop} {YP : World → Heap → Prop} {d : DefRec} {CX : CXT}
    (hn : l.most = some n) (hn2 : n ≤ sizeLine) (hdf : d.params.defaults = []) (room : Room k callerA)
    (F : ∀ (w : World) (mg : Str → Option Value) (fa : Addr) (h : Heap), YP w h → h.Ns mainGlobals mg → mg d.name = some (.ref fa) → ∃ (K : PySem.W.Frag) (fd : FuncData) (sp : Sp), K.In h ∧ (∀ (s : Shared) (u : Value), BindsTo s fd ⟨[u], []⟩ [(x, u)]) ∧
      (∀ (H : Hp) (a : Addr) (ns : List Int), ns.length ≤ n → SqL K H a (ns.map V.int) → sp [.ref a] H (fun v _ => v = .bl true) fun _ _ _ => False) ∧ ∀ base : Heap, K.In base → base.Ns mainGlobals mg → FnG l.prog w K mg base CX k fa fd [x] sp)
    (never : ∀ (H : Hp) (s : Shared) (e : Value) (s' : Shared), CX [] H s (fun _ _ _ => False) e s' → False) : PySem.W.WalkO q loose XP YP l.row.toRowW d [] (fun f vs => PySem.call f vs) :=
  walk_ofTG (CX := fun _ => CX) hn hn2 hdf room (fun w mg fa h Y glob name => have ⟨K, fd, sp, kin, bind_, spec, fn⟩ := F w mg fa h Y glob name
    ⟨K, kin, fd, [], sp, (fun _ z => nomatch z), (fun _ z => nomatch z), (fun _ z => nomatch z), bind_, fun H a ns len _ _ sq => spec H a ns len sq, fun base kb nb _ => fn base kb nb⟩) fun _ => never
end

/-! ### texts in order -/
def leS (x y : Str) : Prop := ¬ (y.cps.toList < x.cps.toList)
theorem leS_trans {x y z : Str} (h : leS x y) (g : leS y z) : leS x z := List.le_trans (l₁ := x.cps.toList) (l₂ := y.cps.toList) (l₃ := z.cps.toList) h g
theorem leS_antisymm {x y : Str} (h : leS x y) (g : leS y x) : x = y := by
  have e : x.cps.toList = y.cps.toList := List.le_antisymm h g
  obtain ⟨a⟩ := x
  obtain ⟨b⟩ := y
  simp only [Str.mk.injEq] at e ⊢
  exact Array.toList_inj.mp e
/-- risingS looks at neighbours only: with a first text ahead it says that neighbours are in order -/
theorem rising_two {p x : Str} {r : List Str} : PyProof.Rows.risingS p (x :: r) = true ↔ leS p x ∧ PyProof.Rows.risingS x r = true := by
  show (!ltCps x.cps.toList p.cps.toList && PyProof.Rows.risingS x r) = true ↔ _
  rw [Bool.and_eq_true, PyProof.Rows.ltCps_eq, Bool.not_eq_true', decide_eq_false_iff_not]
  exact Iff.rfl
theorem rising_ahead {p : Str} {r : List Str} (h : PyProof.Rows.risingS p r = true) : ∀ y ∈ r, leS p y := by
  induction r generalizing p with
  | nil => exact fun y hy => nomatch hy
  | cons x r more =>
    have ⟨px, xr⟩ := rising_two.mp h
    exact fun y hy => (List.mem_cons.mp hy).elim (fun e => e ▸ px) fun hm => leS_trans px (more xr y hm)
theorem sortedS_iff (l : List Str) : PyProof.Rows.sortedS l = true ↔ l.Pairwise leS := by
  induction l with
  | nil => exact ⟨fun _ => .nil, fun _ => rfl⟩
  | cons p r more =>
    have step : PyProof.Rows.risingS p r = true ↔ (∀ y ∈ r, leS p y) ∧ PyProof.Rows.sortedS r = true := by
      match r with
      | [] => exact ⟨fun _ => ⟨fun _ hy => absurd hy List.not_mem_nil, rfl⟩, fun _ => rfl⟩
      | x :: r => exact ⟨fun h => ⟨rising_ahead h, (rising_two.mp h).2⟩, fun ⟨a, s⟩ => rising_two.mpr ⟨a x List.mem_cons_self, s⟩⟩
    exact step.trans ((and_congr_right fun _ => more).trans List.pairwise_cons.symm)
/-- there is one order -/
theorem sortedS_one {xs ys zs : List Str} (h1 : ys.Perm xs) (s1 : PyProof.Rows.sortedS ys = true) (h2 : zs.Perm xs) (s2 : PyProof.Rows.sortedS zs = true) : ys = zs :=
  List.Perm.eq_of_pairwise (le := leS) (fun _ _ _ _ h g => leS_antisymm h g) ((sortedS_iff _).mp s1) ((sortedS_iff _).mp s2) (h1.trans h2.symm)
def leB (x y : Str) : Bool := !decide (y.cps.toList < x.cps.toList)
def srt (xs : List Str) : List Str := xs.mergeSort leB
theorem srt_perm (xs : List Str) : (srt xs).Perm xs := List.mergeSort_perm xs leB
theorem srt_sorted (xs : List Str) : PyProof.Rows.sortedS (srt xs) = true := by
  rw [sortedS_iff]
  have h := List.pairwise_mergeSort (le := leB) (fun a b c h g => by
    have h := of_decide_eq_false (Bool.not_eq_true' _ |>.mp h)
    have g := of_decide_eq_false (Bool.not_eq_true' _ |>.mp g)
    exact Bool.not_eq_true' _ |>.mpr (decide_eq_false (leS_trans (x := a) (y := b) (z := c) h g)))
    (fun a b => by
      rcases List.le_total a.cps.toList b.cps.toList with h | h
      · exact Bool.or_eq_true_iff.mpr (.inl (Bool.not_eq_true' _ |>.mpr (decide_eq_false h)))
      · exact Bool.or_eq_true_iff.mpr (.inr (Bool.not_eq_true' _ |>.mpr (decide_eq_false h)))) xs
  exact h.imp fun {a b} h => of_decide_eq_false (Bool.not_eq_true' _ |>.mp h)
theorem srt_eq {xs ys : List Str} (h : ys.Perm xs) (s : PyProof.Rows.sortedS ys = true) : ys = srt xs := sortedS_one h s (srt_perm xs) (srt_sorted xs)
/-- sorted(d), within a comprehension -/
def rSD : List V → Hp → VK → Prop := fun xs H Q => ∃ (a : Addr) (kvs : List (Key × V)) (ks : List Str), xs = [.ref a] ∧ Rd H a (.dK kvs) ∧ kvs.map (·.1) = ks.map Sum.inr ∧ ks.length < 64 ∧
  ∀ ys p, ys.Perm ks → sortedS ys = true → H p = none → Q (.ref p) (upd H p (.lst (ys.map V.str)))

/-! ### d.update(e) -/
def tDUpd (td ty : TE) : TE := fun σ H Q => td σ H fun x H1 => ∃ a, x = .ref a ∧ IsD H1 a ∧ ty σ H1 fun y H2 => ∃ b kvs more, y = .ref b ∧ a ≠ b ∧ H2 a = some (.dK kvs) ∧ Rd H2 b (.dK more) ∧ kvs.length + more.length ≤ sizeLine ∧ Q .non (upd H2 a (.dK (mergeK kvs more)))
/-- a merge has at most the rows of both -/
theorem mergeK_le (more : List (Key × V)) : ∀ kvs : List (Key × V), (mergeK kvs more).length ≤ kvs.length + more.length := by
  induction more with
  | nil => exact fun kvs => Nat.le_refl _
  | cons row rest more_ => exact fun kvs => Nat.le_trans (more_ (putK kvs row.1 row.2)) (by have := length_putK kvs row.1 row.2; simp only [List.length_cons]; omega)
/-- the call itself: the first dict holds the merge, all else is as it was -/
theorem upd_call {X : Cx} {pins : List (Addr × Obj)} {σ : L2.St} {H : Hp} {s : Shared} {one two : Addr} {kvs more : List (Key × V)} {A : Around} {E : Value → Shared → Prop} {Q : Value → Shared → Prop} (I : Inv X pins σ H s) (at1 : H one = some (.dK kvs)) (at2 : Rd H two (.dK more)) (apart_ : one ≠ two)
    (few : kvs.length + more.length ≤ sizeLine) (told : ∀ s', Inv X pins σ (upd H one (.dK (mergeK kvs more))) s' → Q .none s') : wpAny (model X.prog X.w) A (call (.builtin "dict.update") [.ref one, .ref two]) Q E s :=
  have ⟨_, mod1, vs1, rel1, dict1⟩ := dk_of I.hok at1
  have ⟨_, mod2, vs2, rel2, dict2⟩ := dk_rd I.hok at2
  call_meetsIn PySem.F.slot_dict_update dict1.typeIs PySem.F.entry_dict_update (PySem.F.args_dict_update_2 _ _) (meets_dict_update (mixKind X.prog X.w) one two apart_ mod2)
    ⟨vs1, vs2, dict1, dict2, by rw [← rel1.length, ← rel2.length]; exact few, fun heap' dict' _ rest => told _ <|
      d_write (t' := s.toks) I (by rw [at1]; trivial) rest (let ⟨ob, _, _, there, _⟩ := dict'; ⟨ob, there⟩) (dk_new (Nat.le_trans (mergeK_le more kvs) few) mod1 (rel2.merge rel1) dict')⟩
theorem pe_dupd {X : Cx} {o e : Expr} {apos cpos : Pos} {td ty : TE} (ho : PE X o td) (he : PE X e ty) (m : M1 X o "update" apos e cpos) : PE X (.Call (.Attribute o "update" apos) [e] [] cpos) (tDUpd td ty) where
  run pins s σ H Q I want := wpAny_Call_method m.base m.few m.line PySem.F.plainAttrs_dict PySem.F.slot_dict_update PySem.F.type_dict_update <| thn (ho.run pins s σ H _ I want) fun u s1 ⟨x, H1, I1, rx, one, ex, isd, rest⟩ => by
    subst ex; cases rx
    have ⟨ty1, ty2, _⟩ := isD_at I1 isd
    refine ⟨ty1, ty2, m.trees ▸ Calls.callWith_builtin rfl (Calls.evalArgs_plain (Calls.spliced_cons (thn (he.run pins s1 σ H1 _ I1 rest) fun v s2 ⟨y, H2, I2, ry, two, kvs, more, ey, apart_, at1, at2, few, told⟩ => Calls.spliced_nil ?_)))⟩
    subst ey; cases ry
    exact upd_call I2 at1 at2 apart_ few fun s3 I3 => ⟨.non, _, I3, rfl, told⟩

/-! ### turns over a walk: one lemma for every kind of comprehension -/
/-- the turns of a comprehension that walks J, from the heap start: Fin holds behind the last one -/
abbrev Turns (J : It) (start : Hp) (Fin : Hp → Prop) (step : (Hp → Prop) → V → Hp → Prop) : Prop := ∃ W : Nat → Nat → Hp → Prop, (∃ m, W 0 m start) ∧ ∀ at_ left now, W at_ left now →
  (J.stop at_ now ∧ Fin now) ∨ (J.go at_ now ∧ ∃ Nx : Hp → Prop, (∀ h, Nx h → ∃ m', m' < left ∧ W (at_ + 1) m' h) ∧ ∀ item h, J.yld at_ now item h → step Nx item h)
/-- step Nx x H: what a turn with the item x asks, Nx what it must leave. The measure is what is left of the walk. -/
theorem turns {J : It} {len : Nat} {G : Hp → Prop} {Y : Nat → Hp → V → Hp → Prop} (wk : Walk J len G Y) {step : (Hp → Prop) → V → Hp → Prop} {start : Hp} {Fin : Hp → Prop} (Inv' : Nat → Hp → Prop)
    (begin_ : Inv' 0 start) (open_ : ∀ {at_ now}, at_ ≤ len → Inv' at_ now → G now)
    (turn_ : ∀ {at_ now item then_}, at_ < len → Inv' at_ now → Y at_ now item then_ → step (Inv' (at_ + 1)) item then_) (end_ : ∀ {now}, Inv' len now → Fin now) :
    Turns J start Fin step :=
  ⟨fun at_ left now => at_ + left = len ∧ Inv' at_ now, ⟨len, Nat.zero_add len, begin_⟩, fun at_ left now ⟨sum, holds⟩ => match left, sum with
    | 0, sum => have all : at_ = len := sum
      .inl ⟨all ▸ wk.stops now (open_ (Nat.le_refl len) (all ▸ holds)), end_ (all ▸ holds)⟩
    | more + 1, sum => have lt : at_ < len := by omega
      have g := open_ (Nat.le_of_lt lt) holds
      .inr ⟨wk.goes at_ now lt g, Inv' (at_ + 1), fun h nx => ⟨more, Nat.lt_succ_self more, by omega, nx⟩, fun item h y => turn_ lt holds (wk.yields at_ now item h lt g y)⟩⟩
/-- a dict comprehension over a walk: what a turn asks -/
abbrev dcStep (g : TG) (tt : TT) (tk tv : TE) (vs : List Nat) (σ : L2.St) (D : Addr) : (Hp → Prop) → V → Hp → Prop := fun Nx x H' => g x (wipe σ vs) H' fun σ2 H2 => wipe σ2 vs = wipe σ vs ∧ tt σ2 H2 fun b H3 =>
  if b = true then tk σ2 H3 fun y H4 => tv σ2 H4 fun z H5 => ∃ kvs k, y = kV k ∧ H5 D = some (.dK kvs) ∧ kvs.length < sizeLine ∧ Nx (upd H5 D (.dK (putK kvs k z))) else Nx H3
theorem dc_it {J : It} {n : Nat} {G : Hp → Prop} {Y : Nat → Hp → V → Hp → Prop} (w : Walk J n G Y) {g : TG} {tt : TT} {tk tv : TE} {vs : List Nat} {σ : L2.St} {H1 : Hp} {D : Addr} {Qd : Hp → Prop} (Pv : Nat → Hp → Prop) (h0 : Pv 0 (upd H1 D (.dK []))) (hG : ∀ i H, i ≤ n → Pv i H → G H)
    (hs : ∀ i x H H', i < n → Pv i H → Y i H x H' → dcStep g tt tk tv vs σ D (Pv (i + 1)) x H') (hd : ∀ H, Pv n H → Qd H) : Turns J (upd H1 D (.dK [])) Qd (dcStep g tt tk tv vs σ D) :=
  turns w Pv h0 (hG _ _) (hs _ _ _ _) (hd _)

/-! ### the program -/
def sp_is_integer (K : PySem.W.Frag) : Sp := fun vs H Q _ => ∃ (i : Int), vs = [.int i] ∧ Q (.bl true) H
theorem ok_is_integer {P : Program} {w : World} {K : PySem.W.Frag} {mg : Str → Option Value} {base : Heap} {fd : FuncData} (T : Txt K mg) (F : FnP K "is_integer" s_is_integer [] fd) : FnOk P w K mg base CX0 1 (He.ga K "is_integer") fd ps_is_integer (sp_is_integer K) := by
  refine F.ok sc_is_integer (fun vs H Q E h => ?len) (fun cdv A outer s H vs Q E hr h => ?body)
  case len => obtain ⟨i, rfl, k⟩ := h; rfl
  case body =>
  obtain ⟨i, rfl, k⟩ := h
  have hu := hu_of hr
  refine ⟨_, PSs.nox (pss_one (ps_ret (pe_and (pe_callB call_isi (by rfl) T.n_isinstance (by decide +kernel) (pa_cons (pv 0) (pa_cons (pe_bltn (v := .ty "int") rfl T.n_int (by decide +kernel) rfl) pa_nil))) (pe_one (pe_not (pe_callB call_isi (by rfl) T.n_isinstance (by decide +kernel) (pa_cons (pv 0) (pa_cons (pe_bltn (v := .ty "bool") rfl T.n_bool (by decide +kernel) rfl) pa_nil)))))))), ?_⟩
  exact ⟨_, rfl, .int i, .ty "int", _, _, _, rfl, .ty "int", .base (.int i), kit_ty (show kitB "int" "int" = some true by decide +kernel), _, rfl, iteT ⟨_, rfl, .int i, .ty "bool", _, _, _, rfl, .ty "bool", .base (.int i), kit_ty (show kitB "int" "bool" = some false by decide +kernel), _, rfl, k⟩⟩
def sp_check_ticks (K : PySem.W.Frag) : Sp := fun vs H Q _ => ∃ (i : Int) (s : Str), vs = [.int i, .str s] ∧ 1 ≤ i ∧ i ≤ 999 ∧ Q .non H
theorem ok_check_ticks {P : Program} {w : World} {K : PySem.W.Frag} {mg : Str → Option Value} {base : Heap} {fd : FuncData} (T : Txt K mg) (F : FnP K "check_ticks" s_check_ticks [] fd) : FnOk P w K mg base CX0 2 (He.ga K "check_ticks") fd ps_check_ticks (sp_check_ticks K) := by
  obtain ⟨fd_is_integer, F_is_integer⟩ := T.d_is_integer
  have G_is_integer := ok_is_integer (P := P) (w := w) (base := base) T F_is_integer
  have k_is_integer := F_is_integer.kp
  have b_is_integer := bi_is_integer F_is_integer
  obtain ⟨t_MOST_TICKS, h_MOST_TICKS⟩ := T.c_MOST_TICKS
  refine F.ok sc_check_ticks (fun vs H Q E h => ?len) (fun cdv A outer s H vs Q E hr h => ?body)
  case len => obtain ⟨i, s, rfl, h1, h2, k⟩ := h; rfl
  case body =>
  obtain ⟨i, s, rfl, h1, h2, k⟩ := h
  have hu := hu_of hr
  refine ⟨_, PSs.nox (pss_one (ps_if (PW.pt (pw_or (pt_not (pt_val (pe_call G_is_integer (hr.mono (by first | decide | omega)) rfl T.g_is_integer k_is_integer b_is_integer .nil pass0 (pa_cons (pv 0) pa_nil)))) (pw_or1 (pt_not (pt_chain op_le op_le pe_int (pv 0) (pe_glob (v := .int 999) rfl h_MOST_TICKS ⟨_, rfl⟩)))))) (pss_one ps_never) pss_nil)), ?_⟩
  refine ⟨_, rfl, i, rfl, _, rfl, iteF ⟨_, rfl, _, _, rfl, rfl, _, rfl, ?_⟩⟩
  rw [decide_eq_true h1]
  refine iteT ⟨_, _, rfl, rfl, _, rfl, ?_⟩
  rw [decide_eq_true h2]
  exact iteF k
/-! ### tables and notes -/
abbrev Tb : Type := List (Str × Int)
abbrev Nt : Type := Int × Str × Int
def tabK (t : Tb) : List (Key × V) := t.map fun p => (Sum.inr p.1, V.int p.2)
def lk : Tb → Str → Option Int
  | [], _ => none
  | p :: r, n => if p.1 = n then some p.2 else lk r n
def putT (t : Tb) (n : Str) (x : Int) : Tb := if (t.any fun p => decide (p.1 = n)) = true then t.map (fun p => if p.1 = n then (p.1, x) else p) else t ++ [(n, x)]
theorem lk_val (t : Tb) (n : Str) : valV (tabK t) (Sum.inr n) = (lk t n).map V.int := by
  induction t with
  | nil => rfl
  | cons p r ih =>
    unfold lk
    by_cases e : p.1 = n
    · rw [if_pos e]
      exact valV_pos (by show Sum.inr p.1 = _; rw [e])
    · rw [if_neg e, ← ih]
      exact valV_neg (p := (Sum.inr p.1, V.int p.2)) (fun z => e (by injection z))
theorem put_tab (t : Tb) (n : Str) (x : Int) : putK (tabK t) (Sum.inr n) (V.int x) = tabK (putT t n x) := by
  have e1 : ((tabK t).any fun kv => decide (kv.1 = (Sum.inr n : Key))) = t.any fun p => decide (p.1 = n) := by
    unfold tabK
    rw [List.any_map]
    congr 1
    funext p
    show decide ((Sum.inr p.1 : Key) = Sum.inr n) = _
    exact decide_eq_decide.mpr ⟨fun z => by injection z, fun z => by rw [z]⟩
  unfold putK putT
  rw [e1]
  split
  · unfold tabK
    rw [List.map_map, List.map_map]
    congr 1
    funext p
    show (if (Sum.inr p.1 : Key) = Sum.inr n then _ else _) = _
    by_cases e : p.1 = n
    · rw [if_pos (by rw [e]), Function.comp, if_pos e]
    · rw [if_neg (fun z => e (by injection z)), Function.comp, if_neg e]
  · unfold tabK
    rw [List.map_append]
    rfl
theorem putT_len (t : Tb) (n : Str) (x : Int) : (putT t n x).length ≤ t.length + 1 := by
  unfold putT
  split
  · rw [List.length_map]; omega
  · rw [List.length_append]; exact Nat.le_refl _
theorem putT_mem {t : Tb} {n m : Str} {x : Int} (h : m ∈ (putT t n x).map (·.1)) : m ∈ t.map (·.1) ∨ m = n := by
  unfold putT at h
  split at h
  · rw [List.map_map] at h
    obtain ⟨p, hp, rfl⟩ := List.mem_map.mp h
    refine .inl (List.mem_map.mpr ⟨p, hp, ?_⟩)
    show _ = (if p.1 = n then (p.1, x) else p).1
    split <;> rfl
  · rw [List.map_append, List.mem_append] at h
    rcases h with h | h
    · exact .inl h
    · exact .inr (by simpa using h)
theorem putT_nd {t : Tb} {n : Str} {x : Int} (h : (t.map (·.1)).Nodup) : ((putT t n x).map (·.1)).Nodup := by
  unfold putT
  split
  · have e : (t.map fun p => if p.1 = n then (p.1, x) else p).map (·.1) = t.map (·.1) := by
      rw [List.map_map]
      congr 1
      funext p
      show (if p.1 = n then (p.1, x) else p).1 = p.1
      split <;> rfl
    rw [e]
    exact h
  · rename_i g
    rw [List.map_append, List.nodup_append]
    refine ⟨h, by simp, fun a ha b hb e => g ?_⟩
    obtain ⟨p, hp, rfl⟩ := List.mem_map.mp ha
    have hb : b = n := by simpa using hb
    exact List.any_eq_true.mpr ⟨p, hp, decide_eq_true (e.trans hb)⟩
theorem lk_some {t : Tb} {n : Str} (h : n ∈ t.map (·.1)) : ∃ x, lk t n = some x := by
  induction t with
  | nil => cases h
  | cons p r ih =>
    unfold lk
    by_cases e : p.1 = n
    · exact ⟨_, if_pos e⟩
    · rw [if_neg e]
      rw [List.map_cons] at h
      rcases List.mem_cons.mp h with z | z
      · exact absurd z.symm e
      · exact ih z
/-- the notes up to a moment; of a moment -/
def lastT (m : Int) (ns : List Nt) (acc : Tb) : Tb := ns.foldl (fun acc r => if r.1 ≤ m then putT acc r.2.1 r.2.2 else acc) acc
def eqT (m : Int) (ns : List Nt) (acc : Tb) : Tb := ns.foldl (fun acc r => if r.1 = m then putT acc r.2.1 r.2.2 else acc) acc
theorem last_cons (m : Int) (r : Nt) (ns : List Nt) (acc : Tb) : lastT m (r :: ns) acc = lastT m ns (if r.1 ≤ m then putT acc r.2.1 r.2.2 else acc) := rfl
theorem eq_cons (m : Int) (r : Nt) (ns : List Nt) (acc : Tb) : eqT m (r :: ns) acc = eqT m ns (if r.1 = m then putT acc r.2.1 r.2.2 else acc) := rfl
theorem last_late {m : Int} : ∀ {ns : List Nt} {acc : Tb}, (∀ r ∈ ns, m < r.1) → lastT m ns acc = acc
  | [], _, _ => rfl
  | r :: ns, acc, h => by
    rw [last_cons, if_neg (by have := h r (List.mem_cons_self ..); omega)]
    exact last_late fun z hz => h z (List.mem_cons_of_mem _ hz)
theorem eq_late {m : Int} : ∀ {ns : List Nt} {acc : Tb}, (∀ r ∈ ns, m < r.1) → eqT m ns acc = acc
  | [], _, _ => rfl
  | r :: ns, acc, h => by
    rw [eq_cons, if_neg (by have := h r (List.mem_cons_self ..); omega)]
    exact eq_late fun z hz => h z (List.mem_cons_of_mem _ hz)
/-- notes by time: those up to m are those up to m - 1 and those of m -/
theorem last_step {m : Int} : ∀ {ns : List Nt} (acc : Tb), ns.Pairwise (fun a b => a.1 ≤ b.1) → eqT m ns (lastT (m - 1) ns acc) = lastT m ns acc
  | [], _, _ => rfl
  | r :: ns, acc, h => by
    obtain ⟨h1, h2⟩ := List.pairwise_cons.mp h
    rw [last_cons, last_cons, eq_cons]
    by_cases c : r.1 ≤ m - 1
    · rw [if_pos c, if_pos (show r.1 ≤ m by omega), if_neg (show ¬ r.1 = m by omega)]
      exact last_step _ h2
    · rw [if_neg c]
      by_cases d : r.1 = m
      · rw [if_pos d, if_pos (show r.1 ≤ m by omega)]
        have e : lastT (m - 1) ns acc = acc := last_late fun z hz => by have := h1 z hz; omega
        have e2 : lastT (m - 1) ns (putT acc r.2.1 r.2.2) = putT acc r.2.1 r.2.2 := last_late fun z hz => by have := h1 z hz; omega
        rw [e, ← last_step (putT acc r.2.1 r.2.2) h2, e2]
      · rw [if_neg d, if_neg (show ¬ r.1 ≤ m by omega)]
        have l : ∀ z ∈ ns, m < z.1 := fun z hz => by have := h1 z hz; omega
        rw [last_late (m := m - 1) fun z hz => by have := l z hz; omega, eq_late l, last_late l]
theorem last_len (m : Int) : ∀ (ns : List Nt) (acc : Tb), (lastT m ns acc).length ≤ acc.length + ns.length
  | [], acc => Nat.le_refl _
  | r :: ns, acc => by
    rw [last_cons]
    have h := last_len m ns (if r.1 ≤ m then putT acc r.2.1 r.2.2 else acc)
    have g := putT_len acc r.2.1 r.2.2
    rw [List.length_cons]
    split at h
    · rename_i c
      rw [if_pos c]
      omega
    · rename_i c
      rw [if_neg c]
      omega
theorem last_mem {m : Int} {n : Str} : ∀ {ns : List Nt} {acc : Tb}, n ∈ (lastT m ns acc).map (·.1) → n ∈ acc.map (·.1) ∨ ∃ r ∈ ns, r.2.1 = n
  | [], _, h => .inl h
  | r :: ns, acc, h => by
    rw [last_cons] at h
    rcases last_mem h with g | ⟨z, hz, e⟩
    · split at g
      · rcases putT_mem g with g | g
        · exact .inl g
        · exact .inr ⟨r, List.mem_cons_self .., g.symm⟩
      · exact .inl g
    · exact .inr ⟨z, List.mem_cons_of_mem _ hz, e⟩
/-- the names that lead -/
def someT (l : Int) (t last : Tb) : List Str := (srt (last.map (·.1))).filter fun n => decide ((lk t n).getD 0 < (lk last n).getD 0 + l)
def blF (l : Int) (ns : List Nt) : Nat → List Tb → Option (Nat × Str × Str)
  | _, [] => none
  | i, t :: ts => match someT l t (lastT (i : Int) ns []) with
    | a :: b :: _ => some (i, a, b)
    | _ => blF l ns (i + 1) ts
def Res (H : Hp) (v : V) : Option (Nat × Str × Str) → Prop
  | none => v = .non
  | some (i, a, b) => ∃ p, v = .ref p ∧ H p = some (.tup [.int (i : Int), .str a, .str b])
def MomAt (H : Hp) (L : Addr) (ms : List Tb) : Prop := ∃ ps : List Addr, H L = some (.lst (ps.map V.ref)) ∧ Paired (fun p t => H p = some (.dK (tabK t))) ps ms
def NotAt (H : Hp) (L : Addr) (ns : List Nt) : Prop := ∃ ps : List Addr, H L = some (.lst (ps.map V.ref)) ∧ Paired (fun p r => H p = some (.tup [.int r.1, .str r.2.1, .int r.2.2])) ps ns
theorem MomAt.same {H H' : Hp} {L : Addr} {ms : List Tb} (h : MomAt H L ms) (s : Same H H') : MomAt H' L ms := by
  obtain ⟨ps, h1, h2⟩ := h
  exact ⟨ps, s _ _ h1, Paired.mono (fun p r q => s _ _ q) h2⟩
theorem NotAt.same {H H' : Hp} {L : Addr} {ms : List Nt} (h : NotAt H L ms) (s : Same H H') : NotAt H' L ms := by
  obtain ⟨ps, h1, h2⟩ := h
  exact ⟨ps, s _ _ h1, Paired.mono (fun p r q => s _ _ q) h2⟩
theorem Same.trans' {H H1 H2 : Hp} (a : Same H H1) (b : Same H1 H2) : Same H H2 := fun x o h => b x o (a x o h)
theorem paired_at {α β : Type} {F : α → β → Prop} : ∀ {xs : List α} {ys : List β} {i : Nat} {a : α}, Paired F xs ys → xs[i]? = some a → ∃ b, ys[i]? = some b ∧ F a b
  | _, _, _, _, .nil, e => by simp at e
  | _, _, 0, _, .cons r _, e => by simp at e; subst e; exact ⟨_, rfl, r⟩
  | _, _, i + 1, a, .cons _ t, e => by
    obtain ⟨b, h1, h2⟩ := paired_at (i := i) (a := a) t (by simpa using e)
    exact ⟨b, by simpa using h1, h2⟩
theorem paired_len {α β : Type} {F : α → β → Prop} : ∀ {xs : List α} {ys : List β}, Paired F xs ys → xs.length = ys.length
  | _, _, .nil => rfl
  | _, _, .cons _ t => by rw [List.length_cons, List.length_cons, paired_len t]
theorem same_grow {H H' : Hp} {L : Addr} {u : HO} (hL : H L = none) (s : Same H H') : Same H (upd H' L u) := fun b o hb => by rw [upd_ne (ne_of_none hb hL)]; exact s b o hb
theorem tab_get {H : Hp} {d : Addr} {t : Tb} {n : Str} {x : Int} (h : H d = some (.dK (tabK t))) (e : lk t n = some x) : DGet H d (.str n) (some (.int x)) := by
  have g := DGet.k (k := Sum.inr n) h
  rw [lk_val, e] at g
  exact g
def sp_both_lead (K : PySem.W.Frag) : Sp := fun vs H Q _ => ∃ (l : Int) (L N : Addr) (ms : List Tb) (ns : List Nt), vs = [.int l, .ref L, .ref N] ∧ 1 ≤ l ∧ l ≤ 999 ∧ MomAt H L ms ∧ NotAt H N ns ∧ (∀ t ∈ ms, ∀ r ∈ ns, ∃ x, lk t r.2.1 = some x) ∧ ns.length < 60 ∧
  ∀ v H', Same H H' → Res H' v (blF l ns 0 ms) → Q v H'
theorem ok_both_lead {P : Program} {w : World} {K : PySem.W.Frag} {mg : Str → Option Value} {base : Heap} {fd : FuncData} (T : Txt K mg) (F : FnP K "both_lead" s_both_lead [] fd) : FnOk P w K mg base CX0 3 (He.ga K "both_lead") fd ps_both_lead (sp_both_lead K) := by
  obtain ⟨fd_check_ticks, F_check_ticks⟩ := T.d_check_ticks
  have G_check_ticks := ok_check_ticks (P := P) (w := w) (base := base) T F_check_ticks
  have k_check_ticks := F_check_ticks.kp
  have b_check_ticks := bi_check_ticks F_check_ticks
  refine F.ok sc_both_lead (fun vs H Q E h => ?len) (fun cdv A outer s H vs Q E hr h => ?body)
  case len => obtain ⟨l, L, N, ms, ns, rfl, l1, l2, hM, hN, hin, hns, k⟩ := h; rfl
  case body =>
  obtain ⟨l, L, N, ms, ns, rfl, l1, l2, hM, hN, hin, hns, k⟩ := h
  have hu := hu_of hr
  refine ⟨_, PSs.nox (pss_cons (ps_expr (pe_call G_check_ticks (hr.mono (by first | decide | omega)) rfl T.g_check_ticks k_check_ticks b_check_ticks .nil pass0 (pa_cons (pv 0) (pa_cons pe_str pa_nil))))
    (pss_cons (ps_for PassesOwn.never rfl (pi_enum (by rfl) T.n_enumerate (pa_cons (pv 1) pa_nil)) (pg_tup rfl (pgs_cons (pg_name (i := 3) sc_both_lead.nd rfl (Or.inr rfl)) (pgs_cons (pg_name (i := 4) sc_both_lead.nd rfl (Or.inr rfl)) pgs_nil)))
      (pss_cons (ps_set (i := 5) sc_both_lead.nd rfl (Or.inr rfl) (pe_dc (own := [("when", 7), ("name", 8), ("renewed", 9)]) (g := gTup K 3 (gCons (gName 7) (gCons (gName 8) (gCons (gName 9) gNil)))) rfl sc_both_lead.nd (pi_list (pv 2)) (blkOk_by (own := [("when", 7), ("name", 8), ("renewed", 9)]) (N := N_both_lead) (sc := defScope s_both_lead) (by decide +kernel)) (fun _ _ _ _ _ => (pg_tup rfl (pgs_cons (pg_name (i := 7) sc_both_lead.nd rfl (Or.inl rfl) (Or.inr rfl)) (pgs_cons (pg_name (i := 8) sc_both_lead.nd rfl (Or.inl rfl) (Or.inr rfl)) (pgs_cons (pg_name (i := 9) sc_both_lead.nd rfl (Or.inl rfl) (Or.inr rfl)) pgs_nil))))) (fun _ _ _ _ _ => (pts_one (pt_cmpR op_le (pv 7) (pv 3) (nomark _)))) (fun _ _ _ _ _ => (pv 8)) (fun _ _ _ _ _ => (pv 9))))
        (pss_cons (ps_setLc (i := 6) (own := [("name", 8)]) rfl sc_both_lead.nd rfl rfl (sw_true rfl rfl rfl (by decide +kernel)) (pi_list (pe_callB (call_sortedD rfl) (by rfl) T.n_sorted (by decide +kernel) (pa_cons (pv 5) pa_nil))) (blkOk_by (own := [("name", 8)]) (N := N_both_lead) (sc := defScope s_both_lead) (by decide +kernel)) (fun _ _ _ _ _ => (pg_name (i := 8) sc_both_lead.nd rfl (Or.inl rfl))) (fun _ _ _ _ _ => (pts_one (pt_cmpR op_lt (pe_dget hu (pv 4) (pv 8) (fun _ _ => rfl)) (pe_op op_add (pe_dget hu (pv 5) (pv 8) (fun _ _ => rfl)) (pv 0)) (nomark _)))) (fun _ _ _ _ _ => (pv 8)))
        (pss_one (ps_if (pt_cmpR op_gt (pe_callB call_len_seq (by rfl) T.n_len (by decide +kernel) (pa_cons (pv 6) pa_nil)) pe_int (nomark _)) (pss_one (ps_ret (pe_tup (pa_cons (pv 3) (pa_cons (pe_ix ix_list (pv 6) pe_int (fun _ _ => rfl)) (pa_cons (pe_ix ix_list (pv 6) pe_int (fun _ _ => rfl)) pa_nil)))))) pss_nil)))))
    (pss_one (ps_ret pe_non)))), ?_⟩
  refine ⟨_, rfl, l, _, rfl, l1, l2, ?_⟩
  obtain ⟨ps, gL, hp⟩ := id hM
  refine ⟨_, rfl, L, _, rfl, SqL.of gL, for_it walk_enum (fun i σ H' => ∃ v3 v4 v5 v6 v7 v8 v9 : Option V, σ = [some (.int l), some (.ref L), some (.ref N), v3, v4, v5, v6, v7, v8, v9] ∧ Same H H' ∧ blF l ns 0 ms = blF l ns i (ms.drop i))
    ⟨_, _, _, _, _, _, _, rfl, Same.refl H, rfl⟩ (fun i σ H' _ ⟨_, _, _, _, _, _, _, _, S, _⟩ => SqL.of (S _ _ gL)) ?_ ?_⟩
  · rintro i x σ H1 H2 hi ⟨v3, v4, v5, v6, v7, v8, v9, rfl, S1, eb⟩ ⟨T, x0, y0, rfl, hT, rfl, ex, ey⟩
    cases ex
    have ey : (ps.map V.ref)[i]? = some y0 := ey
    rw [List.getElem?_map] at ey
    obtain ⟨p, ep, rfl⟩ := Option.map_eq_some_iff.mp ey
    obtain ⟨t, et, ht⟩ := paired_at hp ep
    have S2 := Same.trans' S1 (Same.new (u := .tup [.int (i : Int), .ref p]) hT)
    refine ⟨T, _, rfl, SqT.of upd_same, rfl, _, _, rfl, _, _, rfl, rfl, ?_⟩
    generalize upd H1 T (.tup [.int (i : Int), .ref p]) = H2 at S2 ⊢
    obtain ⟨qs, gN, hq⟩ := id hN
    refine ⟨_, rfl, N, rfl, ⟨_, SqL.of (S2 _ _ gN)⟩, fun D hD => dc_it (walk_list (xs := qs.map V.ref)) (fun j H' => Same H2 H' ∧ H' D = some (.dK (tabK (lastT (i : Int) (ns.take j) [])))) ⟨Same.new hD, upd_same⟩ (fun j H' _ q => SqL.of (q.1 _ _ (S2 _ _ gN))) ?_ ?_⟩
    · rintro j x H3 _ hj ⟨S3, gD⟩ ⟨rfl, ex⟩
      rw [List.getElem?_map] at ex
      obtain ⟨q, eq, rfl⟩ := Option.map_eq_some_iff.mp ex
      obtain ⟨r, er, hr⟩ := paired_at hq eq
      have gq := S3 _ _ (S2 _ _ hr)
      refine ⟨q, _, rfl, SqT.of gq, rfl, _, _, rfl, _, _, rfl, _, _, rfl, rfl, rfl, _, rfl, _, rfl, _, _, rfl, rfl, _, rfl, ?_⟩
      have ln := last_len (i : Int) (ns.take j) []
      have lj : (ns.take j).length ≤ ns.length := by rw [List.length_take]; omega
      by_cases c : r.1 ≤ (i : Int)
      · rw [decide_eq_true c]
        refine iteT ⟨_, rfl, _, rfl, _, Sum.inr r.2.1, rfl, gD, small1000 (by unfold tabK; rw [List.length_map]; simp only [List.length_nil] at ln; omega), same_grow hD S3, ?_⟩
        rw [upd_same, put_tab, get_take er]
        unfold lastT
        rw [List.foldl_append]
        show some (HO.dK (tabK (putT _ _ _))) = some (HO.dK (tabK (if r.1 ≤ (i : Int) then _ else _)))
        rw [if_pos c]
      · rw [decide_eq_false c]
        refine iteF ⟨S3, ?_⟩
        rw [gD, get_take er]
        unfold lastT
        rw [List.foldl_append]
        show some (HO.dK (tabK _)) = some (HO.dK (tabK (if r.1 ≤ (i : Int) then _ else _)))
        rw [if_neg c]
    · rintro H3 ⟨S3, gD⟩
      rw [List.length_map, paired_len hq, List.take_length] at gD
      have S03 := Same.trans' S2 S3
      have gt := S03 _ _ ht
      have lm : ∀ n ∈ (lastT (i : Int) ns []).map (·.1), ∃ x, lk t n = some x := fun n hn => by
        rcases last_mem hn with h | ⟨r, hr, rfl⟩
        · cases h
        · exact hin t (mem_at et) r hr
      have ll := last_len (i : Int) ns []
      have ht2 : someT l t (lastT (i : Int) ns []) = (srt ((lastT (i : Int) ns []).map (·.1))).filter fun n => decide ((lk t n).getD 0 < (lk (lastT (i : Int) ns []) n).getD 0 + l) := rfl
      have eb2 : blF l ns i (ms.drop i) = match someT l t (lastT (i : Int) ns []) with
        | a :: b :: _ => some (i, a, b)
        | _ => blF l ns (i + 1) (ms.drop (i + 1)) := by
        rw [show ms.drop i = t :: ms.drop (i + 1) from (List.drop_eq_getElem?_toList_append (l := ms) (i := i) |>.trans (by rw [et]; rfl))]
        rfl
      generalize lastT (i : Int) ns [] = last at *
      refine ⟨_, rfl, D, _, last.map (·.1), rfl, .inl gD, by unfold tabK; rw [List.map_map, List.map_map]; rfl, by rw [List.length_map]; simp only [List.length_nil] at ll; omega, fun ys p3 hperm hsrt n3 => ?_⟩
      have eys := srt_eq hperm hsrt
      subst eys
      have S4 := Same.new (u := .lst ((srt (last.map (·.1))).map V.str)) n3
      have g3 : upd H3 p3 (.lst ((srt (last.map (·.1))).map V.str)) p3 = _ := upd_same
      generalize upd H3 p3 (.lst ((srt (last.map (·.1))).map V.str)) = H4 at S4 g3 ⊢
      have gt4 := S4 _ _ gt
      have gD4 := S4 _ _ gD
      refine ⟨p3, rfl, ⟨_, SqL.of g3⟩, fun D2 hD2 => lc_it (walk_list (xs := (srt (last.map (·.1))).map V.str)) (fun j H' => Same H4 H' ∧ H' D2 = some (.lst ((((srt (last.map (·.1))).take j).filter fun n => decide ((lk t n).getD 0 < (lk last n).getD 0 + l)).map V.str))) ⟨Same.new hD2, upd_same⟩ (fun j H' _ q => SqL.of (q.1 _ _ g3)) ?_ ?_⟩
      · rintro j x H5 _ hj ⟨S5, gD5⟩ ⟨rfl, ex⟩
        rw [List.getElem?_map] at ex
        obtain ⟨n, en, rfl⟩ := Option.map_eq_some_iff.mp ex
        have hn : n ∈ last.map (·.1) := (srt_perm _).mem_iff.mp (mem_at en)
        obtain ⟨x1, e1⟩ := lm n hn
        obtain ⟨x2, e2⟩ := lk_some hn
        refine ⟨rfl, _, rfl, _, rfl, p, _, rfl, tab_get (S5 _ _ gt4) e1, _, rfl, _, rfl, D, _, rfl, tab_get (S5 _ _ gD4) e2, _, rfl, _, _, rfl, rfl, _, _, rfl, rfl, _, rfl, ?_⟩
        have ef : ((srt (last.map (·.1))).take (j + 1)).filter (fun n => decide ((lk t n).getD 0 < (lk last n).getD 0 + l)) = ((srt (last.map (·.1))).take j).filter (fun n => decide ((lk t n).getD 0 < (lk last n).getD 0 + l)) ++ (if x1 < x2 + l then [n] else []) := by
          rw [get_take en, List.filter_append, List.filter_cons, List.filter_nil, e1, e2]
          congr 1
          show (if decide (x1 < x2 + l) = true then _ else _) = _
          by_cases c : x1 < x2 + l
          · rw [decide_eq_true c, if_pos rfl, if_pos c]
          · rw [decide_eq_false c, if_neg c]; rfl
        by_cases c : x1 < x2 + l
        · rw [decide_eq_true c]
          refine iteT ⟨_, rfl, _, gD5, small1000 ?_, same_grow hD2 S5, ?_⟩
          · rw [List.length_map]
            have z1 := List.length_filter_le (fun n => decide ((lk t n).getD 0 < (lk last n).getD 0 + l)) ((srt (last.map (·.1))).take j)
            have z2 : ((srt (last.map (·.1))).take j).length ≤ (srt (last.map (·.1))).length := by rw [List.length_take]; omega
            have z3 := (srt_perm (last.map (·.1))).length_eq
            rw [List.length_map] at z3
            simp only [List.length_nil] at ll
            omega
          · rw [upd_same, ef, if_pos c, List.map_append]; rfl
        · rw [decide_eq_false c]
          refine iteF ⟨S5, ?_⟩
          rw [gD5, ef, if_neg c, List.append_nil]
      · rintro H5 ⟨S5, gD5⟩
        rw [List.length_map, List.take_length, ← ht2] at gD5
        have S05 := Same.trans' (Same.trans' S03 S4) S5
        refine ⟨_, rfl, D2, _, rfl, .inl (SqL.of gD5), _, _, rfl, rfl, _, rfl, ?_⟩
        rw [List.length_map]
        rw [← eb] at eb2
        generalize someT l t last = ss at gD5 eb2 ⊢
        match ss, gD5, eb2 with
        | [], gD5, eb2 => exact iteF ⟨_, _, _, _, _, _, _, rfl, S05, eb2⟩
        | [_], gD5, eb2 => exact iteF ⟨_, _, _, _, _, _, _, rfl, S05, eb2⟩
        | s1 :: s2 :: sr, gD5, eb2 =>
          rw [decide_eq_true (by simp only [List.length_cons]; omega)]
          refine iteT ⟨_, rfl, _, rfl, D2, _, 0, _, rfl, rfl, SqL.of gD5, atI_nat (j := 0) rfl, _, rfl, D2, _, 1, _, rfl, rfl, SqL.of gD5, atI_nat (j := 1) rfl, smallN (by show 3 ≤ 1000; decide), fun p6 n6 => ?_⟩
          exact k _ _ (Same.trans' S05 (Same.new n6)) (by rw [eb2]; exact ⟨p6, rfl, upd_same⟩)
  · rintro σ H1 ⟨v3, v4, v5, v6, v7, v8, v9, rfl, S1, eb⟩
    rw [List.length_map, paired_len hp, List.drop_length] at eb
    exact k _ _ S1 (by rw [eb]; rfl)

theorem eq_take {m : Int} {ns : List Nt} {j : Nat} {r : Nt} (e : ns[j]? = some r) (acc : Tb) : eqT m (ns.take (j + 1)) acc = if r.1 = m then putT (eqT m (ns.take j) acc) r.2.1 r.2.2 else eqT m (ns.take j) acc := by
  rw [get_take e]
  unfold eqT
  rw [List.foldl_append]
  rfl
theorem eq_len (m : Int) : ∀ (ns : List Nt) (acc : Tb), (eqT m ns acc).length ≤ acc.length + ns.length
  | [], acc => Nat.le_refl _
  | r :: ns, acc => by
    rw [eq_cons]
    have h := eq_len m ns (if r.1 = m then putT acc r.2.1 r.2.2 else acc)
    have g := putT_len acc r.2.1 r.2.2
    rw [List.length_cons]
    split at h
    · rename_i c
      rw [if_pos c]
      omega
    · rename_i c
      rw [if_neg c]
      omega
theorem fresh_of {H H' : Hp} {p : Addr} (e : Same H H') (h : H' p = none) : H p = none := by
  cases h1 : H p with
  | none => rfl
  | some o => rw [e p o h1] at h; cases h
def sp__law_due (K : PySem.W.Frag) : Sp := fun vs H Q _ => ∃ (l : Int) (L N : Addr) (ms : List Tb) (ns : List Nt), vs = [.int l, .ref L, .ref N] ∧ MomAt H L ms ∧ NotAt H N ns ∧ (∀ t ∈ ms, ∀ r ∈ ns, ∃ x, lk t r.2.1 = some x) ∧ ns.length < 60 ∧ ns.Pairwise (fun a b => a.1 ≤ b.1) ∧ (∀ r ∈ ns, 0 ≤ r.1) ∧
  ∀ v H', Same H H' → Res H' v (blF l ns 0 ms) → Q v H'
theorem ok__law_due {P : Program} {w : World} {K : PySem.W.Frag} {mg : Str → Option Value} {base : Heap} {fd : FuncData} (T : Txt K mg) (F : FnP K "_law_due" s__law_due [] fd) : FnOk P w K mg base CX0 1 (He.ga K "_law_due") fd ps__law_due (sp__law_due K) := by
  refine F.ok sc__law_due (fun vs H Q E h => ?len) (fun cdv A outer s H vs Q E hr h => ?body)
  case len => obtain ⟨l, L, N, ms, ns, rfl, hM, hN, hin, hns, hpw, h0, k⟩ := h; rfl
  case body =>
  obtain ⟨l, L, N, ms, ns, rfl, hM, hN, hin, hns, hpw, h0, k⟩ := h
  have hu := hu_of hr
  refine ⟨_, PSs.nox (pss_cons (ps_set (i := 3) sc__law_due.nd rfl (Or.inl rfl) pe_dnewK)
    (pss_cons (ps_for PassesOwn.never rfl (pi_enum (by rfl) T.n_enumerate (pa_cons (pv 1) pa_nil)) (pg_tup rfl (pgs_cons (pg_name (i := 4) sc__law_due.nd rfl (Or.inl rfl)) (pgs_cons (pg_name (i := 5) sc__law_due.nd rfl (Or.inl rfl)) pgs_nil)))
      (pss_cons (ps_for PassesOwn.never rfl (pi_list (pv 2)) (pg_tup rfl (pgs_cons (pg_name (i := 6) sc__law_due.nd rfl (Or.inl rfl)) (pgs_cons (pg_name (i := 7) sc__law_due.nd rfl (Or.inl rfl)) (pgs_cons (pg_name (i := 8) sc__law_due.nd rfl (Or.inl rfl)) pgs_nil))))
          (pss_one (ps_if (pt_cmpR op_eq (pv 6) (pv 4) (nomark _)) (pss_one (ps_expr (pe_dupd (pv 3) (pe_disp (pps_cons (pv 7) (pv 8) pps_nil) (by rfl) (by rfl) (fun z => by cases z) (by decide)) ⟨rfl, rfl, rfl, rfl⟩))) pss_nil)))
        (pss_cons (ps_set (i := 9) sc__law_due.nd rfl (Or.inl rfl) (pe_lst pa_nil))
        (pss_cons (ps_for PassesOwn.never rfl (pi_list (pe_callB (call_sortedD rfl) (by rfl) T.n_sorted (by decide +kernel) (pa_cons (pv 3) pa_nil))) (pg_name (i := 7) sc__law_due.nd rfl (Or.inl rfl))
          (pss_one (ps_if (pt_cmpR op_lt (pe_dget hu (pv 5) (pv 7) (fun _ _ => rfl)) (pe_op op_add (pe_dget hu (pv 3) (pv 7) (fun _ _ => rfl)) (pv 0)) (nomark _)) (pss_one (ps_expr (pe_bm PySem.F.plainAttrs_list PySem.F.slot_list_append PySem.F.type_list_append mt_append (pv 9) (pa_cons (pv 7) pa_nil)))) pss_nil)))
        (pss_one (ps_if (pt_cmpR op_ge (pe_callB call_len_seq (by rfl) T.n_len (by decide +kernel) (pa_cons (pv 9) pa_nil)) pe_int (nomark _)) (pss_one (ps_ret (pe_tup (pa_cons (pv 4) (pa_cons (pe_ix ix_list (pv 9) pe_int (fun _ _ => rfl)) (pa_cons (pe_ix ix_list (pv 9) pe_int (fun _ _ => rfl)) pa_nil)))))) pss_nil))))))
    (pss_one (ps_ret pe_non)))), ?_⟩
  refine fun d hd => ?_
  obtain ⟨ps, gL, hp⟩ := id hM
  obtain ⟨qs, gN, hq⟩ := id hN
  have Sd := Same.new (u := .dK []) hd
  have e00 : lastT (-1) ns [] = [] := last_late fun r hr => by have := h0 r hr; omega
  refine ⟨_, rfl, L, _, rfl, SqL.of (Sd _ _ gL), for_it walk_enum (fun i σ H' => ∃ v4 v5 v6 v7 v8 v9 : Option V, σ = [some (.int l), some (.ref L), some (.ref N), some (.ref d), v4, v5, v6, v7, v8, v9] ∧ Same H H' ∧ H' d = some (.dK (tabK (lastT ((i : Int) - 1) ns []))) ∧ blF l ns 0 ms = blF l ns i (ms.drop i))
    ⟨_, _, _, _, _, _, rfl, Sd, by rw [upd_same]; show _ = some (HO.dK (tabK (lastT (-1) ns []))); rw [e00]; rfl, rfl⟩ (fun i σ H' _ ⟨_, _, _, _, _, _, _, S, _⟩ => SqL.of (S _ _ gL)) ?_ ?_⟩
  · rintro i x σ H1 H2 hi ⟨v4, v5, v6, v7, v8, v9, rfl, S1, gd1, eb⟩ ⟨T, x0, y0, rfl, hT, rfl, ex, ey⟩
    cases ex
    have ey : (ps.map V.ref)[i]? = some y0 := ey
    rw [List.getElem?_map] at ey
    obtain ⟨p, ep, rfl⟩ := Option.map_eq_some_iff.mp ey
    obtain ⟨t, et, ht⟩ := paired_at hp ep
    have Sx := Same.new (u := .tup [.int (i : Int), .ref p]) hT
    have S2 := Same.trans' S1 Sx
    have gd2 := Sx _ _ gd1
    refine ⟨T, _, rfl, SqT.of upd_same, rfl, _, _, rfl, _, _, rfl, rfl, ?_⟩
    generalize upd H1 T (.tup [.int (i : Int), .ref p]) = H2 at S2 gd2 ⊢
    refine ⟨_, rfl, N, rfl, ⟨_, SqL.of (S2 _ _ gN)⟩, for_list (K := K) (a := N) (xs := qs.map V.ref) (fun j σ H' => ∃ v6 v7 v8 : Option V, σ = [some (.int l), some (.ref L), some (.ref N), some (.ref d), some (.int (i : Int)), some (.ref p), v6, v7, v8, v9] ∧ Same H H' ∧ H' d = some (.dK (tabK (eqT (i : Int) (ns.take j) (lastT ((i : Int) - 1) ns [])))))
      ⟨_, _, _, rfl, S2, gd2⟩ (fun j σ H' _ ⟨_, _, _, _, S, _⟩ => SqL.of (S _ _ gN)) ?_ ?_⟩
    · rintro j x σ H3 ex ⟨v6, v7, v8, rfl, S3, gd3⟩
      rw [List.getElem?_map] at ex
      obtain ⟨q, eq, rfl⟩ := Option.map_eq_some_iff.mp ex
      obtain ⟨r, er, hr⟩ := paired_at hq eq
      refine ⟨q, _, rfl, SqT.of (S3 _ _ hr), rfl, _, _, rfl, _, _, rfl, _, _, rfl, rfl, _, rfl, _, rfl, rfl, _, rfl, ?_⟩
      have et := eq_take (m := (i : Int)) er (lastT ((i : Int) - 1) ns [])
      by_cases c : r.1 = (i : Int)
      · rw [decide_eq_true (by rw [c])]
        refine iteT ?_
        rw [if_pos c] at et
        have lx := eq_len (i : Int) (ns.take j) (lastT ((i : Int) - 1) ns [])
        have ly := last_len ((i : Int) - 1) ns []
        have lj : (ns.take j).length ≤ ns.length := by rw [List.length_take]; omega
        simp only [List.length_nil] at ly
        generalize eqT (i : Int) (ns.take j) (lastT ((i : Int) - 1) ns []) = kn at gd3 et lx
        refine ⟨_, rfl, d, rfl, .inl ⟨_, .inl gd3⟩, fun b hb => ⟨_, rfl, _, rfl, upd_same, [(Sum.inr r.2.1, .int r.2.2)], rfl, by show 1 ≤ 15; decide, b, tabK kn, [(Sum.inr r.2.1, .int r.2.2)], rfl, ne_of_none gd3 hb, ?_, .inl upd_same, smallN (by unfold tabK; rw [List.length_map, List.length_singleton]; omega), _, _, _, rfl, ?_, ?_⟩⟩
        · rw [upd_ne (ne_of_none gd3 hb), upd_ne (ne_of_none gd3 hb)]; exact gd3
        · exact same_grow hd (same_grow (fresh_of S3 hb) (same_grow (fresh_of S3 hb) S3))
        · rw [upd_same, et, ← put_tab]; rfl
      · rw [decide_eq_false (fun z => c (V.int.inj z))]
        rw [if_neg c] at et
        exact iteF ⟨_, _, _, rfl, S3, by rw [gd3, et]⟩
    · rintro σ H3 ⟨v6, v7, v8, rfl, S3, gd3⟩
      rw [List.length_map, paired_len hq, List.take_length, last_step _ hpw] at gd3
      have gt := S3 _ _ ht
      have lm : ∀ n ∈ (lastT (i : Int) ns []).map (·.1), ∃ x, lk t n = some x := fun n hn => by
        rcases last_mem hn with h | ⟨r, hr, rfl⟩
        · cases h
        · exact hin t (mem_at et) r hr
      have ll := last_len (i : Int) ns []
      simp only [List.length_nil] at ll
      have ht2 : someT l t (lastT (i : Int) ns []) = (srt ((lastT (i : Int) ns []).map (·.1))).filter fun n => decide ((lk t n).getD 0 < (lk (lastT (i : Int) ns []) n).getD 0 + l) := rfl
      have eb2 : blF l ns i (ms.drop i) = match someT l t (lastT (i : Int) ns []) with
        | a :: b :: _ => some (i, a, b)
        | _ => blF l ns (i + 1) (ms.drop (i + 1)) := by
        rw [show ms.drop i = t :: ms.drop (i + 1) from (List.drop_eq_getElem?_toList_append (l := ms) (i := i) |>.trans (by rw [et]; rfl))]
        rfl
      have enext : ((i + 1 : Nat) : Int) - 1 = (i : Int) := by omega
      refine ⟨smallN (by show 0 ≤ 1000; decide), fun D2 hD2 => ?_⟩
      have Sy := Same.new (u := .lst []) hD2
      have ndD : d ≠ D2 := ne_of_none gd3 hD2
      have nfD : H D2 = none := fresh_of S3 hD2
      have gDy : upd H3 D2 (.lst []) D2 = _ := upd_same
      have gdy := Sy _ _ gd3
      have Sz := Same.trans' S3 Sy
      refine ⟨_, rfl, d, _, (lastT (i : Int) ns []).map (·.1), rfl, (.inl gdy), by unfold tabK; rw [List.map_map, List.map_map]; rfl, by rw [List.length_map]; omega, fun ys p3 hperm hsrt n3 => ?_⟩
      have eys := srt_eq hperm hsrt
      subst eys
      have S4 := Same.new (u := .lst ((srt ((lastT (i : Int) ns []).map (·.1))).map V.str)) n3
      have g3 : upd (upd H3 D2 (.lst [])) p3 (.lst ((srt ((lastT (i : Int) ns []).map (·.1))).map V.str)) p3 = _ := upd_same
      have n3D : p3 ≠ D2 := (ne_of_none gDy n3).symm
      have gD4 := S4 _ _ gDy
      have gd4 := S4 _ _ gdy
      have S04 := Same.trans' Sz S4
      generalize upd (upd H3 D2 (.lst [])) p3 (.lst ((srt ((lastT (i : Int) ns []).map (·.1))).map V.str)) = H4 at g3 gD4 gd4 S04 ⊢
      clear S4 Sz Sy gdy gDy hperm hsrt n3
      generalize hlast : lastT (i : Int) ns [] = last at *
      refine ⟨p3, rfl, ⟨_, SqL.of g3⟩, for_list (K := K) (a := p3) (xs := (srt (last.map (·.1))).map V.str) (fun j σ H' => ∃ v7 : Option V, σ = [some (.int l), some (.ref L), some (.ref N), some (.ref d), some (.int (i : Int)), some (.ref p), v6, v7, v8, some (.ref D2)] ∧ Same H H' ∧ H' d = some (.dK (tabK last)) ∧ H' p3 = some (.lst ((srt (last.map (·.1))).map V.str)) ∧ H' D2 = some (.lst ((((srt (last.map (·.1))).take j).filter fun n => decide ((lk t n).getD 0 < (lk last n).getD 0 + l)).map V.str)))
        ⟨_, rfl, S04, gd4, g3, gD4⟩ (fun j σ H' _ ⟨_, _, _, _, q, _⟩ => SqL.of q) ?_ ?_⟩
      · rintro j x σ H5 ex ⟨v7, rfl, S5, gd5, g35, gD5⟩
        rw [List.getElem?_map] at ex
        obtain ⟨n, en, rfl⟩ := Option.map_eq_some_iff.mp ex
        have hn : n ∈ last.map (·.1) := (srt_perm _).mem_iff.mp (mem_at en)
        obtain ⟨x1, e1⟩ := lm n hn
        obtain ⟨x2, e2⟩ := lk_some hn
        refine ⟨_, rfl, _, rfl, p, _, rfl, tab_get (S5 _ _ ht) e1, _, rfl, _, rfl, d, _, rfl, tab_get gd5 e2, _, rfl, _, _, rfl, rfl, _, _, rfl, rfl, _, rfl, ?_⟩
        have ef : ((srt (last.map (·.1))).take (j + 1)).filter (fun n => decide ((lk t n).getD 0 < (lk last n).getD 0 + l)) = ((srt (last.map (·.1))).take j).filter (fun n => decide ((lk t n).getD 0 < (lk last n).getD 0 + l)) ++ (if x1 < x2 + l then [n] else []) := by
          rw [get_take en, List.filter_append, List.filter_cons, List.filter_nil, e1, e2]
          congr 1
          show (if decide (x1 < x2 + l) = true then _ else _) = _
          by_cases c : x1 < x2 + l
          · rw [decide_eq_true c, if_pos rfl, if_pos c]
          · rw [decide_eq_false c, if_neg c]; rfl
        by_cases c : x1 < x2 + l
        · rw [decide_eq_true c]
          refine iteT ⟨_, rfl, .inl ⟨rfl, _, SqL.of gD5⟩, _, rfl, D2, _, _, rfl, rfl, gD5, small1000 ?_, _, rfl, same_grow nfD S5, ?_, ?_, ?_⟩
          · rw [List.length_map]
            have z1 := List.length_filter_le (fun n => decide ((lk t n).getD 0 < (lk last n).getD 0 + l)) ((srt (last.map (·.1))).take j)
            have z2 : ((srt (last.map (·.1))).take j).length ≤ (srt (last.map (·.1))).length := by rw [List.length_take]; omega
            have z3 := (srt_perm (last.map (·.1))).length_eq
            rw [List.length_map] at z3
            omega
          · rw [upd_ne ndD]; exact gd5
          · rw [upd_ne n3D]; exact g35
          · rw [upd_same, ef, if_pos c, List.map_append]; rfl
        · rw [decide_eq_false c]
          refine iteF ⟨_, rfl, S5, gd5, g35, ?_⟩
          rw [gD5, ef, if_neg c, List.append_nil]
      · rintro σ H5 ⟨v7, rfl, S5, gd5, g35, gD5⟩
        rw [List.length_map, List.take_length, ← ht2] at gD5
        refine ⟨_, rfl, D2, _, rfl, .inl (SqL.of gD5), _, _, rfl, rfl, _, rfl, ?_⟩
        rw [List.length_map]
        rw [← eb] at eb2
        rw [← hlast, ← enext] at gd5
        generalize someT l t last = ss at gD5 eb2 ⊢
        match ss, gD5, eb2 with
        | [], gD5, eb2 => exact iteF ⟨_, _, _, _, _, _, rfl, S5, gd5, eb2⟩
        | [_], gD5, eb2 => exact iteF ⟨_, _, _, _, _, _, rfl, S5, gd5, eb2⟩
        | s1 :: s2 :: sr, gD5, eb2 =>
          rw [decide_eq_true (by simp only [List.length_cons]; omega)]
          refine iteT ⟨_, rfl, _, rfl, D2, _, 0, _, rfl, rfl, SqL.of gD5, atI_nat (j := 0) rfl, _, rfl, D2, _, 1, _, rfl, rfl, SqL.of gD5, atI_nat (j := 1) rfl, smallN (by show 3 ≤ 1000; decide), fun p6 n6 => ?_⟩
          exact k _ _ (Same.trans' S5 (Same.new n6)) (by rw [eb2]; exact ⟨p6, rfl, upd_same⟩)
  · rintro σ H1 ⟨v4, v5, v6, v7, v8, v9, rfl, S1, _, eb⟩
    rw [List.length_map, paired_len hp, List.drop_length] at eb
    exact k _ _ S1 (by rw [eb]; rfl)

/-! ### a list of anything against the empty list -/
def rNil (K : PySem.W.Frag) (tell : Bool → Bool) : R2 := fun x y H Q => ∃ (a b : Addr) (xs : List V), x = .ref a ∧ y = .ref b ∧ SqL K H a xs ∧ SqL K H b [] ∧ Q (.bl (tell xs.isEmpty)) H
abbrev rNeNil (K : PySem.W.Frag) : R2 := rNil K not
abbrev rEqNil (K : PySem.W.Frag) : R2 := rNil K id
/-- what stands at the two addresses, as the model's lists; the second has no items -/
theorem nil_items {X : Cx} {pins : List (Addr × Obj)} {σ : L2.St} {H : Hp} {s : Shared} {a b : Addr} {xs : List V} (I : Inv X pins σ H s) (one : SqL X.K H a xs) (two : SqL X.K H b []) :
    ∃ us : List Value, Vals xs us ∧ s.heap.IsList a us.toArray ∧ s.heap.IsList b #[] :=
  have ⟨us, vals, at1, _⟩ := I.list one
  have ⟨_, none_, at2, _⟩ := I.list two
  ⟨us, vals, at1.isList, by cases none_; exact at2.isList⟩
theorem op_neNil {X : Cx} (hu : X.A.units + 64 < cLine) : OpR X (compareOp .NotEq) (rNeNil X.K) := fun pins s σ H x y v u Q I rx ry ⟨a, b, xs, ex, ey, one, two, told⟩ => by
  subst ex ey; cases rx; cases ry
  have ⟨us, vals, A1, A2⟩ := nil_items I one two
  match xs, us, vals with
  | [], [], _ => exact PySem.SeqAt.RcNeAt.lists (e := fun _ => true) A1 A2 rfl (by omega) (fun _ lt _ => nomatch lt) _ _ _ _ ⟨.bl false, H, I, rfl, told⟩
  | _ :: _, _ :: _, _ => exact PySem.SeqAt.RcNeAt.lists_lengths A1 A2 (by simp) (by omega) _ _ _ _ ⟨.bl true, H, I, rfl, told⟩
theorem op_eqNil {X : Cx} (hu : X.A.units + 64 < cLine) : OpR X (compareOp .Eq) (rEqNil X.K) := fun pins s σ H x y v u Q I rx ry ⟨a, b, xs, ex, ey, one, two, told⟩ => by
  subst ex ey; cases rx; cases ry
  have ⟨us, vals, A1, A2⟩ := nil_items I one two
  match xs, us, vals with
  | [], [], _ => exact PySem.SeqAt.RcAt.lists (e := fun _ => true) A1 A2 rfl (by omega) (fun _ lt _ => nomatch lt) _ _ _ _ ⟨.bl true, H, I, rfl, told⟩
  | _ :: _, _ :: _, _ => exact PySem.SeqAt.RcAt.lists_lengths A1 A2 (by simp) (by omega) _ _ _ _ ⟨.bl false, H, I, rfl, told⟩

/-! ### [..], and where the new list lies -/
/-- a list pushed on the heap lies at a place that nothing held, and that is not the table of modules -/
theorem pushed_list {X : Cx} {pins : List (Addr × Obj)} {σ : L2.St} {H : Hp} {s : Shared} {xs : List V} {us : List Value} (I : Inv X pins σ H s) (vals : Vals xs us) (few : xs.length ≤ sizeLine) :
    ∃ l, l = s.heap.objs.size ∧ H l = none ∧ l ≠ sysModules ∧ Inv X pins σ (upd H l (.lst xs)) { s with heap := s.heap.push { cls := .type "list", data := .seq us.toArray } } :=
  ⟨_, rfl, I.hok.fresh (Nat.le_refl _), (Nat.ne_of_lt I.big).symm, I.laid (t' := s.toks) (fun _ _ old => Heap.get?_push_of_some _ old) (Nat.le_refl _) ⟨few, us, 0, vals, Heap.get?_push_size _ rfl⟩⟩
def tLstB (ta : TA) : TE := fun σ H Q => ta σ H fun xs H1 => xs.length ≤ sizeLine ∧ ∀ l, H1 l = none → l ≠ sysModules → Q (.ref l) (upd H1 l (.lst xs))
theorem pe_lstB {X : Cx} {es : List Expr} {t : TA} {pos : Pos} (h : PA X es t) : PE X (.List es pos) (tLstB t) where
  run pins s σ H Q I want := wpAny_List_spliced <| thn (h.run pos pins s σ H _ I want) fun us s1 ⟨xs, H1, I1, vals, few, told⟩ =>
    have ⟨l, el, free, other, I2⟩ := pushed_list I1 vals few
    ⟨vals.length ▸ few, el ▸ ⟨.ref l, _, I2, rfl, told l free other⟩⟩

theorem keep_mom {a : Addr} {n : Nat} {H H' : Hp} {L : Addr} {ms : List Tb} (w : WellAt H a n) (k : Keep a H H') (nL : L ≠ a) (h : MomAt H L ms) : MomAt H' L ms := by
  obtain ⟨ps, h1, h2⟩ := h
  exact ⟨ps, k _ _ nL h1, Paired.mono (fun p r q => k _ _ (well_ne w q fun _ z => by cases z) q) h2⟩
theorem well_same {a : Addr} {n : Nat} {H H' : Hp} (w : WellAt H a n) (x : Same H H') : WellAt H' a n := by
  obtain ⟨u, hu, o⟩ := w; exact ⟨u, x _ _ hu, o⟩
theorem paired_snoc' {α β : Type} {F : α → β → Prop} {x : α} {y : β} : ∀ {xs : List α} {ys : List β}, Paired F xs ys → F x y → Paired F (xs ++ [x]) (ys ++ [y])
  | _, _, .nil, h => .cons h .nil
  | _, _, .cons r t, h => .cons r (paired_snoc' t h)
/-- notes as they are drawn -/
structure NtOk (ms : List Tb) (nms : List Str) (r : Nt) : Prop where
  lo : 0 ≤ r.1
  hi : r.1 < (ms.length : Int)
  nm : r.2.1 ∈ nms
  sm : -1000 ≤ r.2.2 ∧ r.2.2 ≤ 2000
structure NtsOk (ms : List Tb) (nms : List Str) (ns : List Nt) : Prop where
  few : ns.length ≤ 12
  pw : ns.Pairwise (fun a b => a.1 ≤ b.1)
  all : ∀ r ∈ ns, NtOk ms nms r
def MsOk (ms : List Tb) (nms : List Str) : Prop := ∀ t ∈ ms, ∀ nm ∈ nms, ∃ x, lk t nm = some x ∧ 0 ≤ x ∧ x ≤ 1000
def sp__law_notes (K : PySem.W.Frag) : Sp := fun vs H Q _ => ∃ (a L B : Addr) (n : Nat) (ms : List Tb) (nms : List Str), vs = [.ref a, .ref L, .ref B] ∧ WellAt H a n ∧ n < 900000 ∧ MomAt H L ms ∧ L ≠ a ∧ H B = some (.lst (nms.map V.str)) ∧ B ≠ a ∧ 0 < nms.length ∧ nms.length ≤ 4 ∧ ms.length ≤ 15 ∧ MsOk ms nms ∧
  ∀ (N : Addr) (ns : List Nt) (H' : Hp) (n' : Nat), H N = none → N ≠ sysModules → Keep a H H' → WellAt H' a n' → n' ≤ n + 100 → NotAt H' N ns → NtsOk ms nms ns → Q (.ref N) H'
theorem ok__law_notes {P : Program} {w : World} {K : PySem.W.Frag} {mg : Str → Option Value} {base : Heap} {fd : FuncData} (T : Txt K mg) (F : FnP K "_law_notes" s__law_notes [] fd) : FnOk P w K mg base CX0 3 (He.ga K "_law_notes") fd ps__law_notes (sp__law_notes K) := by
  obtain ⟨fd__law_one, F__law_one⟩ := T.d__law_one
  have G__law_one := ok__law_one (P := P) (w := w) (base := base) T F__law_one
  have k__law_one := F__law_one.kp
  have b__law_one := bi__law_one F__law_one
  obtain ⟨fd__law_draw, F__law_draw⟩ := T.d__law_draw
  have G__law_draw := ok__law_draw (P := P) (w := w) (base := base) T F__law_draw
  have k__law_draw := F__law_draw.kp
  have b__law_draw := bi__law_draw F__law_draw
  refine F.ok sc__law_notes (fun vs H Q E h => ?len) (fun cdv A outer s H vs Q E hr h => ?body)
  case len => obtain ⟨a, L, B, n, ms, nms, rfl, hw, hn, hM, nL, hB, nB, h1, h4, hms, hok, k⟩ := h; rfl
  case body =>
  obtain ⟨a, L, B, n, ms, nms, rfl, hw, hn, hM, nL, hB, nB, h1, h4, hms, hok, k⟩ := h
  have hu := hu_of hr
  refine ⟨_, PSs.nox (pss_cons (ps_set (i := 3) sc__law_notes.nd rfl (Or.inl rfl) (pe_lstB pa_nil))
    (pss_cons (ps_for PassesOwn.never rfl (pi_list (pe_callB cr_sorted (by rfl) T.n_sorted (by decide +kernel) (pa_cons (pe_lc (own := [("_law_turn", 7)]) rfl sc__law_notes.nd (pi_range1 rfl T.n_range (pa_cons (pe_op op_mul (pe_call G__law_draw (hr.mono (by first | decide | omega)) rfl T.g__law_draw k__law_draw b__law_draw .nil pass0 (pa_cons (pv 0) (pa_cons pe_int pa_nil))) (pe_callTy call_int1 (by rfl) T.n_int (by decide +kernel) (pa_cons (pe_cmpR (op_neNil hr.units) (pv 1) (pe_lstB pa_nil) (nomark _)) pa_nil))) pa_nil)) (blkOk_by (own := [("_law_turn", 7)]) (N := N__law_notes) (sc := defScope s__law_notes) (by decide +kernel)) (fun _ _ _ _ _ => (pg_name (i := 7) sc__law_notes.nd rfl (Or.inl rfl))) (fun _ _ _ _ _ => pts_nil) (fun _ _ _ _ _ => (pe_call G__law_draw (hr.mono (by first | decide | omega)) rfl T.g__law_draw k__law_draw b__law_draw .nil pass0 (pa_cons (pv 0) (pa_cons (pe_callB (show CallR _ (.builtin "len") (rLenK K) from call_len_seq) (by rfl) T.n_len (by decide +kernel) (pa_cons (pv 1) pa_nil)) pa_nil))))) pa_nil))) (pg_name (i := 4) sc__law_notes.nd rfl (Or.inl rfl))
      (pss_cons (ps_set (i := 5) sc__law_notes.nd rfl (Or.inl rfl) (pe_call G__law_one (hr.mono (by first | decide | omega)) rfl T.g__law_one k__law_one b__law_one .nil pass0 (pa_cons (pv 0) (pa_cons (pv 2) pa_nil))))
        (pss_cons (ps_set (i := 6) sc__law_notes.nd rfl (Or.inl rfl) (pe_dget hu (pe_ix ix_list (pv 1) (pv 4) (fun _ _ => rfl)) (pv 5) (fun _ _ => rfl)))
        (pss_one (ps_expr (pe_bm PySem.F.plainAttrs_list PySem.F.slot_list_append PySem.F.type_list_append mt_append (pv 3) (pa_cons (pe_tup (pa_cons (pv 4) (pa_cons (pv 5) (pa_cons (pe_call G__law_one (hr.mono (by first | decide | omega)) rfl T.g__law_one k__law_one b__law_one .nil pass0 (pa_cons (pv 0) (pa_cons (pe_lst (pa_cons (pv 6) (pa_cons (pv 6) (pa_cons (pe_callB (call_max2 rfl) (by rfl) T.n_max (by decide +kernel) (pa_cons pe_int (pa_cons (pe_op op_sub (pv 6) (pe_call G__law_draw (hr.mono (by first | decide | omega)) rfl T.g__law_draw k__law_draw b__law_draw .nil pass0 (pa_cons (pv 0) (pa_cons pe_int pa_nil)))) pa_nil))) (pa_cons (pe_op op_add (pv 6) pe_int) pa_nil))))) pa_nil))) pa_nil)))) pa_nil)))))))
    (pss_one (ps_ret (pv 3))))), ?_⟩
  refine ⟨smallN (by show 0 ≤ 1000; decide), fun N hN nNs => ?_⟩
  have S1 := Same.new (u := .lst []) hN
  have gN : upd H N (.lst []) N = _ := upd_same
  have nN : N ≠ a := well_ne3 hw hN
  have w1 := well_same hw S1
  have M1 := hM.same S1
  have gB := S1 _ _ hB
  generalize upd H N (.lst []) = H1 at S1 gN w1 M1 gB ⊢
  refine ⟨_, rfl, a, n, 13, rfl, w1, by omega, by decide, by decide, fun r u n2 r0 r1 hn2 hu2 => ?_⟩
  have w2 := well_upd (H := H1) (a := a) hu2
  have K2 : Keep a H1 (upd H1 a u) := Keep.at_
  have M2 := keep_mom w1 K2 nL M1
  generalize upd H1 a u = H2 at w2 K2 M2 ⊢
  obtain ⟨ps, gL, hp⟩ := id M2
  refine ⟨_, rfl, smallN (by show 0 ≤ 1000; decide), fun e he _ => ?_⟩
  refine ⟨L, e, _, rfl, rfl, SqL.of (Same.new he _ _ gL), SqL.of upd_same, .inr ⟨_, rfl, _, _, rfl, rfl, .inl ⟨by omega, by omega⟩, ?_⟩⟩
  have S3 := Same.new (u := .lst []) he
  have w3 := well_same w2 S3
  have M3 := M2.same S3
  generalize upd H2 e (.lst []) = H3 at S3 w3 M3 ⊢
  have K3 : Keep a H1 H3 := K2.trans (Keep.of S3)
  have lp := paired_len hp
  obtain ⟨c, ec, c12, c0⟩ : ∃ c : Nat, (r * if (!(ps.map V.ref).isEmpty) = true then 1 else 0) = (c : Int) ∧ c ≤ 12 ∧ (0 < c → 0 < ms.length) := by
    obtain ⟨rn, rfl⟩ := Int.eq_ofNat_of_zero_le r0
    cases ps with
    | nil => exact ⟨0, by simp, by omega, by omega⟩
    | cons p q => exact ⟨rn, by simp, by omega, fun _ => by rw [← lp]; simp⟩
  refine ⟨(c : Int), congrArg (fun z => [V.int z]) ec, by omega, by omega, fun D hD => ?_⟩
  have nD : D ≠ a := well_ne3 w3 hD
  refine lc_range (lo := 0) (n := c) (fun i H' => ∃ (n' : Nat) (acc : List Int), Keep a H3 H' ∧ WellAt H' a n' ∧ n' ≤ n2 + i ∧ H' D = some (.lst (acc.map V.int)) ∧ acc.length = i ∧ ∀ z ∈ acc, 0 ≤ z ∧ z < (ms.length : Int))
    ⟨n2, [], Keep.new hD, well_same w3 (Same.new hD), by omega, upd_same, rfl, fun z hz => by cases hz⟩ ?_ ?_
  · rintro i H4 hi ⟨n4, acc, K4, w4, m4, gD, la, ha⟩
    have M4 := keep_mom w3 K4 nL M3
    obtain ⟨ps4, gL4, hp4⟩ := id M4
    refine ⟨rfl, yes_ (iteT ?_)⟩
    have l4 := paired_len hp4
    refine ⟨_, rfl, _, rfl, L, _, rfl, .inl (SqL.of gL4), a, n4, _, rfl, w4, by omega, by rw [List.length_map]; have := c0 (by omega); omega, by rw [List.length_map]; omega, fun z u5 n5 z0 z1 m5 hu5 => ?_⟩
    rw [List.length_map, l4] at z1
    have w5 := well_upd (H := H4) (a := a) hu5
    have K5 : Keep a H3 (upd H4 a u5) := K4.trans Keep.at_
    refine ⟨acc.map V.int, by rw [upd_ne nD]; exact gD, small1000 (by rw [List.length_map]; omega), n5, acc ++ [z], ?_, ?_, by omega, by rw [upd_same, List.map_append]; rfl, by rw [List.length_append, la]; rfl, fun y hy => ?_⟩
    · exact fun b o hb hbo => by rw [upd_ne (ne_of_none hbo hD)]; exact K5 b o hb hbo
    · obtain ⟨v, hv, o⟩ := w5
      exact ⟨v, by rw [upd_ne nD.symm]; exact hv, o⟩
    · rcases List.mem_append.mp hy with h | h
      · exact ha y h
      · rw [List.mem_singleton.mp h]; exact ⟨z0, z1⟩
  · rintro H4 ⟨n4, acc, K4, w4, m4, gD, la, ha⟩
    refine ⟨D, acc, rfl, SqL.of gD, by omega, fun ats p hperm hpw hp4 => ?_⟩
    have S5 := Same.new (u := .lst (ats.map V.int)) hp4
    have g5 : upd H4 p (.lst (ats.map V.int)) p = _ := upd_same
    have K05 : Keep a H (upd H4 p (.lst (ats.map V.int))) := ((Keep.of S1).trans (K3.trans K4)).trans (Keep.of S5)
    have w5 := well_same w4 S5
    have gN5 := S5 _ _ (K4 _ _ nN (K3 _ _ nN gN))
    have np : p ≠ a := well_ne3 w4 hp4
    have nNp : N ≠ p := ne_of_none (K4 _ _ nN (K3 _ _ nN gN)) hp4
    have la2 : ats.length ≤ 12 := by rw [hperm.length_eq]; omega
    have ha2 : ∀ z ∈ ats, 0 ≤ z ∧ z < (ms.length : Int) := fun z hz => ha z (hperm.mem_iff.mp hz)
    generalize upd H4 p (.lst (ats.map V.int)) = H5 at S5 g5 K05 w5 gN5 ⊢
    refine ⟨p, rfl, ⟨_, SqL.of g5⟩, for_list (K := K) (a := p) (xs := ats.map V.int) (fun j σ H' => ∃ (v4 v5 v6 v7 : Option V) (n' : Nat) (ns : List Nt), σ = [some (.ref a), some (.ref L), some (.ref B), some (.ref N), v4, v5, v6, v7] ∧ Keep a H H' ∧ WellAt H' a n' ∧ n' ≤ n + 20 + 3 * j ∧ H' p = some (.lst (ats.map V.int)) ∧ NotAt H' N ns ∧ ns.length = j ∧ ns.map (·.1) = ats.take j ∧ ∀ r ∈ ns, NtOk ms nms r)
      ⟨_, _, _, _, n4, [], rfl, K05, w5, by omega, g5, ⟨[], gN5, .nil⟩, rfl, rfl, fun r hr => by cases hr⟩ (fun j σ H' _ ⟨_, _, _, _, _, _, _, _, _, _, q, _⟩ => SqL.of q) ?_ ?_⟩
    · rintro j x σ H6 ex ⟨v4, v5, v6, v7, n6, ns, rfl, K6, w6, m6, g6, hN6, ln, em, hr⟩
      rw [List.getElem?_map] at ex
      obtain ⟨z, ez, rfl⟩ := Option.map_eq_some_iff.mp ex
      obtain ⟨z0, z1⟩ := ha2 z (mem_at ez)
      obtain ⟨i, rfl⟩ := Int.eq_ofNat_of_zero_le z0
      have hj := lt_at ez
      obtain ⟨qs, gq, hq⟩ := id hN6
      refine ⟨_, rfl, _, rfl, a, B, n6, _, rfl, w6, by omega, K6 _ _ nB hB, nB, by rw [List.length_map]; exact h1, by rw [List.length_map]; omega, fun y u7 n7 hy m7 hu7 => ?_⟩
      obtain ⟨nm, hnm, rfl⟩ := List.mem_map.mp hy
      have w7 := well_upd (H := H6) (a := a) hu7
      have K7x : Keep a H6 (upd H6 a u7) := Keep.at_
      generalize upd H6 a u7 = H7 at w7 K7x ⊢
      have M7 := keep_mom hw (K6.trans K7x) nL hM
      obtain ⟨ps7, gL7, hp7⟩ := id M7
      obtain ⟨t, et⟩ : ∃ t, ms[i]? = some t := ⟨ms[i]'(by omega), List.getElem?_eq_getElem _⟩
      obtain ⟨pt, ept, gpt⟩ : ∃ pt, ps7[i]? = some pt ∧ H7 pt = some (.dK (tabK t)) := by
        have hi : i < ps7.length := by rw [paired_len hp7]; omega
        obtain ⟨t', e1, e2⟩ := paired_at hp7 (List.getElem?_eq_getElem hi)
        rw [et] at e1
        cases e1
        exact ⟨_, List.getElem?_eq_getElem hi, e2⟩
      obtain ⟨x, ex, x0, x1⟩ := hok t (mem_at et) nm hnm
      refine ⟨_, rfl, _, rfl, L, _, _, .ref pt, rfl, rfl, SqL.of gL7, atI_nat (by rw [List.getElem?_map, ept]; rfl), _, rfl, pt, _, rfl, tab_get gpt ex, ?_⟩
      refine ⟨_, rfl, .inl ⟨rfl, _, SqL.of (K7x _ _ nN gq)⟩, ?_⟩
      refine ⟨_, rfl, _, rfl, _, rfl, _, rfl, _, rfl, _, rfl, _, rfl, a, n7, 9, rfl, w7, by omega, by decide, by decide, fun r u8 n8 r0' r1' m8 hu8 => ?_⟩
      have w8 := well_upd (H := H7) (a := a) hu8
      have K8x : Keep a H7 (upd H7 a u8) := Keep.at_
      generalize upd H7 a u8 = H8 at w8 K8x ⊢
      refine ⟨_, _, rfl, rfl, 0, _, rfl, _, rfl, _, _, rfl, rfl, smallN (by show 4 ≤ 1000; decide), fun pl hpl => ?_⟩
      have Sl := Same.new (u := .lst [.int x, .int x, .int (if x - r > 0 then x - r else 0), .int (x + 3)]) hpl
      have gl : upd H8 pl (.lst [.int x, .int x, .int (if x - r > 0 then x - r else 0), .int (x + 3)]) pl = _ := upd_same
      have npl : pl ≠ a := well_ne3 w8 hpl
      have w9 := well_same w8 Sl
      generalize upd H8 pl (.lst [.int x, .int x, .int (if x - r > 0 then x - r else 0), .int (x + 3)]) = H9 at Sl gl w9 ⊢
      refine ⟨a, pl, n8, _, rfl, w9, by omega, gl, npl, (by show 0 < 4; decide), (by show 4 ≤ 1000; decide), fun y ua na hy' ma hua => ?_⟩
      obtain ⟨yv, rfl, y1, y2⟩ : ∃ yv : Int, y = .int yv ∧ -1000 ≤ yv ∧ yv ≤ 2000 := by
        simp only [List.mem_cons, List.not_mem_nil, or_false] at hy'
        rcases hy' with rfl | rfl | rfl | rfl
        · exact ⟨x, rfl, by omega, by omega⟩
        · exact ⟨x, rfl, by omega, by omega⟩
        · exact ⟨_, rfl, by split <;> omega, by split <;> omega⟩
        · exact ⟨_, rfl, by omega, by omega⟩
      have wa := well_upd (H := H9) (a := a) hua
      have Ka : Keep a H6 (upd H9 a ua) := ((K7x.trans K8x).trans (Keep.of Sl)).trans Keep.at_
      generalize upd H9 a ua = Ha at wa Ka ⊢
      refine ⟨smallN (by show 3 ≤ 1000; decide), fun T hT => ?_⟩
      have ST := Same.new (u := .tup [.int (i : Int), .str nm, .int yv]) hT
      have gT : upd Ha T (.tup [.int (i : Int), .str nm, .int yv]) T = _ := upd_same
      have wb := well_same wa ST
      have Kb : Keep a H6 (upd Ha T (.tup [.int (i : Int), .str nm, .int yv])) := Ka.trans (Keep.of ST)
      generalize upd Ha T (.tup [.int (i : Int), .str nm, .int yv]) = Hb at ST gT wb Kb ⊢
      have lq := paired_len hq
      have gNb := Kb _ _ nN gq
      refine ⟨N, _, _, rfl, rfl, gNb, small1000 (by rw [List.length_map]; omega), _, _, _, _, na, ns ++ [((i : Int), nm, yv)], rfl, ?_, ?_, by omega, ?_, ⟨qs ++ [T], ?_, ?_⟩, ?_, ?_, ?_⟩
      · exact fun b o hb hbo => by rw [upd_ne (ne_of_none hbo hN)]; exact Kb b o hb (K6 b o hb hbo)
      · obtain ⟨v, hv, o⟩ := wb
        exact ⟨v, by rw [upd_ne nN.symm]; exact hv, o⟩
      · rw [upd_ne nNp.symm]; exact Kb _ _ np g6
      · rw [upd_same, List.map_append]; rfl
      · refine paired_snoc' (Paired.mono (fun p r q => ?_) hq) ?_
        · rw [upd_ne (ne_of q gq fun z => by cases z)]
          exact Kb _ _ (well_ne w6 q fun _ z => by cases z) q
        · show upd Hb N _ T = some (.tup [.int (i : Int), .str nm, .int yv])
          rw [upd_ne (ne_of gT gNb fun z => by cases z)]; exact gT
      · rw [List.length_append, ln]; rfl
      · rw [List.map_append, em, get_take ez]; rfl
      · intro q hq'
        rcases List.mem_append.mp hq' with h | h
        · exact hr q h
        · rw [List.mem_singleton.mp h]
          exact ⟨z0, z1, hnm, y1, y2⟩
    · rintro σ H6 ⟨v4, v5, v6, v7, n6, ns, rfl, K6, w6, m6, g6, hN6, ln, em, hr⟩
      rw [List.length_map] at ln m6 em
      rw [List.take_length] at em
      refine ⟨_, rfl, k N ns H6 n6 hN nNs K6 w6 (by omega) hN6 ⟨by omega, ?_, hr⟩⟩
      rw [← em] at hpw
      exact List.pairwise_map.mp hpw

/-! ### data that repr shows -/
def Fit (b dep : Nat) (d : PyData) : Prop := d.showable = true ∧ d.depth ≤ dep ∧ d.leavesShort 13 = true ∧ d.bulk ≤ b
theorem Fit.shown {b dep : Nat} {d : PyData} (h : Fit b dep d) (h1 : dep ≤ 60) (h2 : b ≤ 2 ^ 20) : d.showable = true ∧ d.depth ≤ 60 ∧ d.shown.length ≤ sizeLine :=
  ⟨h.1, Nat.le_trans h.2.1 h1, PyData.shown_fits_bulk (B := 13) (by decide) (by decide) h.2.2.1 (Nat.le_trans h.2.2.2 h2)⟩
theorem fit_none {b dep : Nat} : Fit b dep .none := ⟨by simp [PyData.showable], by simp [PyData.depth], by simp [PyData.leavesShort], by simp [PyData.bulk]⟩
theorem fit_bool {b dep : Nat} (x : Bool) : Fit b dep (.bool x) := ⟨by simp [PyData.showable], by simp [PyData.depth], by simp [PyData.leavesShort], by simp [PyData.bulk]⟩
theorem fit_int {b dep : Nat} {i : Int} (h : i.natAbs < 10 ^ 12) : Fit b dep (.int i) := by
  refine ⟨?_, by simp [PyData.depth], ?_, by simp [PyData.bulk]⟩
  · simp only [PyData.showable, decide_eq_true_eq]
    by_cases z : i.natAbs = 0
    · rw [z]; decide
    · exact (Nat.log2_lt z).mpr (Nat.lt_of_lt_of_le h (by decide +kernel))
  · simp only [PyData.leavesShort, decide_eq_true_eq]
    exact PyData.shown_int_le h
theorem fit_str {b dep : Nat} {x : Str} (h1 : x.cps.size ≤ b) (h2 : (x.cps.toList.all fun c => decide (c < 16 ^ 8)) = true) : Fit b dep (.str x) :=
  ⟨by simp [PyData.showable], by simp [PyData.depth], by simpa [PyData.leavesShort] using h2, by simpa [PyData.bulk] using h1⟩
theorem fit_all {b dep : Nat} : ∀ {ds : List PyData}, (∀ d ∈ ds, Fit b dep d) → PyData.showableAll ds = true ∧ PyData.depthAll ds ≤ dep ∧ PyData.leavesShortAll 13 ds = true ∧ PyData.bulkAll ds ≤ ds.length * (b + 1)
  | [], _ => by simp [PyData.showableAll, PyData.depthAll, PyData.leavesShortAll, PyData.bulkAll]
  | d :: ds, h => by
    obtain ⟨a1, a2, a3, a4⟩ := h d (List.mem_cons_self ..)
    obtain ⟨b1, b2, b3, b4⟩ := fit_all (ds := ds) fun x hx => h x (List.mem_cons_of_mem _ hx)
    refine ⟨by simp [PyData.showableAll, a1, b1], by simp only [PyData.depthAll]; omega, by simp [PyData.leavesShortAll, a3, b3], ?_⟩
    simp only [PyData.bulkAll, List.length_cons, Nat.add_mul, Nat.one_mul]
    omega
theorem fit_kv {b dep : Nat} : ∀ {kvs : List (PyData × PyData)}, (∀ p ∈ kvs, Fit b dep p.1 ∧ Fit b dep p.2) → PyData.showableKv kvs = true ∧ PyData.depthKv kvs ≤ dep ∧ PyData.leavesShortKv 13 kvs = true ∧ PyData.bulkKv kvs ≤ kvs.length * (2 * b + 2)
  | [], _ => by simp [PyData.showableKv, PyData.depthKv, PyData.leavesShortKv, PyData.bulkKv]
  | (x, y) :: kvs, h => by
    obtain ⟨⟨a1, a2, a3, a4⟩, ⟨c1, c2, c3, c4⟩⟩ := h (x, y) (List.mem_cons_self ..)
    dsimp only at a1 a2 a3 a4 c1 c2 c3 c4
    obtain ⟨b1, b2, b3, b4⟩ := fit_kv (kvs := kvs) fun z hz => h z (List.mem_cons_of_mem _ hz)
    refine ⟨by simp [PyData.showableKv, a1, b1, c1], by simp only [PyData.depthKv]; omega, by simp [PyData.leavesShortKv, a3, b3, c3], ?_⟩
    simp only [PyData.bulkKv, List.length_cons, Nat.add_mul, Nat.one_mul]
    omega
theorem fit_list {n b dep : Nat} {ds : List PyData} (h : ∀ d ∈ ds, Fit b dep d) (hn : ds.length ≤ n) : Fit (n * (b + 1)) (dep + 1) (.list ds) := by
  obtain ⟨b1, b2, b3, b4⟩ := fit_all h
  exact ⟨by simpa [PyData.showable] using b1, by simp only [PyData.depth]; omega, by simpa [PyData.leavesShort] using b3, by simp only [PyData.bulk]; exact Nat.le_trans b4 (Nat.mul_le_mul_right _ hn)⟩
theorem fit_tup {n b dep : Nat} {ds : List PyData} (h : ∀ d ∈ ds, Fit b dep d) (hn : ds.length ≤ n) : Fit (n * (b + 1)) (dep + 1) (.tuple ds) := by
  obtain ⟨b1, b2, b3, b4⟩ := fit_all h
  exact ⟨by simpa [PyData.showable] using b1, by simp only [PyData.depth]; omega, by simpa [PyData.leavesShort] using b3, by simp only [PyData.bulk]; exact Nat.le_trans b4 (Nat.mul_le_mul_right _ hn)⟩
theorem fit_dict {n b dep : Nat} {kvs : List (PyData × PyData)} (h : ∀ p ∈ kvs, Fit b dep p.1 ∧ Fit b dep p.2) (hn : kvs.length ≤ n) : Fit (n * (2 * b + 2)) (dep + 1) (.dict kvs) := by
  obtain ⟨b1, b2, b3, b4⟩ := fit_kv h
  exact ⟨by simpa [PyData.showable] using b1, by simp only [PyData.depth]; omega, by simpa [PyData.leavesShort] using b3, by simp only [PyData.bulk]; exact Nat.le_trans b4 (Nat.mul_le_mul_right _ hn)⟩
theorem Fit.mono {b b' dep dep' : Nat} {d : PyData} (h : Fit b dep d) (h1 : b ≤ b') (h2 : dep ≤ dep') : Fit b' dep' d := ⟨h.1, Nat.le_trans h.2.1 h2, h.2.2.1, Nat.le_trans h.2.2.2 h1⟩

/-! ### the law -/
abbrev names4 : List Str := ["b", "aa", "a", "c"]
structure NmOk (nms : List Str) : Prop where
  some : 0 < nms.length
  four : nms.length ≤ 4
  nd : nms.Nodup
  sub : ∀ n ∈ nms, n ∈ names4
structure TbOk (nms : List Str) (t : Tb) : Prop where
  keys : t.map (·.1) = nms
  small : ∀ p ∈ t, 0 ≤ p.2 ∧ p.2 ≤ 1000
theorem names_cut {r : Int} (h0 : 0 ≤ r) (h1 : r < 4) : ∃ ns, cutV (names4.map V.str) none (some (1 + r)) = ns.map V.str ∧ NmOk ns := by
  have : r = 0 ∨ r = 1 ∨ r = 2 ∨ r = 3 := by omega
  rcases this with rfl | rfl | rfl | rfl
  · exact ⟨names4.take 1, rfl, by decide, by decide, by decide +kernel, by simp [names4]⟩
  · exact ⟨names4.take 2, rfl, by decide, by decide, by decide +kernel, by simp [names4]⟩
  · exact ⟨names4.take 3, rfl, by decide, by decide, by decide +kernel, by simp [names4]⟩
  · exact ⟨names4.take 4, rfl, by decide, by decide, by decide +kernel, by simp [names4]⟩
theorem lk_mem {t : Tb} {n : Str} {x : Int} (h : lk t n = some x) : (n, x) ∈ t := by
  induction t with
  | nil => cases h
  | cons p r ih =>
    unfold lk at h
    split at h
    · rename_i e
      cases h
      rw [← e]
      exact List.mem_cons_self ..
    · exact List.mem_cons_of_mem _ (ih h)
theorem TbOk.get {nms : List Str} {t : Tb} (h : TbOk nms t) {n : Str} (hn : n ∈ nms) : ∃ x, lk t n = some x ∧ 0 ≤ x ∧ x ≤ 1000 := by
  rw [← h.keys] at hn
  obtain ⟨x, e⟩ := lk_some hn
  exact ⟨x, e, h.small _ (lk_mem e)⟩
theorem lk_of_mem {t : Tb} {n : Str} {x : Int} (nd : (t.map (·.1)).Nodup) (h : (n, x) ∈ t) : lk t n = some x := by
  induction t with
  | nil => cases h
  | cons p r ih =>
    rw [List.map_cons, List.nodup_cons] at nd
    unfold lk
    rcases List.mem_cons.mp h with e | hm
    · rw [← e, if_pos rfl]
    · rw [if_neg (fun e => nd.1 (by rw [e]; exact List.mem_map.mpr ⟨_, hm, rfl⟩))]
      exact ih nd.2 hm
/-- pairs merged into an empty dict -/
theorem merge_tab : ∀ {t acc : Tb}, ((acc ++ t).map (·.1)).Nodup → mergeK (tabK acc) (tabK t) = tabK (acc ++ t)
  | [], acc, _ => by rw [List.append_nil]; rfl
  | p :: t, acc, nd => by
    have e : putK (tabK acc) (Sum.inr p.1) (V.int p.2) = tabK (acc ++ [p]) := by
      rw [put_tab]
      unfold putT
      rw [if_neg]
      intro h
      obtain ⟨q, hq, eq⟩ := List.any_eq_true.mp h
      rw [List.map_append, List.map_cons, List.nodup_append] at nd
      exact nd.2.2 _ (List.mem_map_of_mem hq) _ (List.mem_cons_self ..) (of_decide_eq_true eq)
    show mergeK (putK (tabK acc) (Sum.inr p.1) (V.int p.2)) (tabK t) = _
    rw [e, merge_tab (t := t) (acc := acc ++ [p]) (by rw [List.append_assoc]; exact nd), List.append_assoc]
    rfl
theorem merge_nil {t : Tb} (nd : (t.map (·.1)).Nodup) : mergeK [] (tabK t) = tabK t := merge_tab (acc := []) nd
/-! what leads, by the tables' entries alone -/
theorem some_congr {l : Int} {t t' last : Tb} (h : ∀ n ∈ last.map (·.1), lk t n = lk t' n) : someT l t last = someT l t' last := by
  unfold someT
  refine List.filter_congr fun n hn => ?_
  rw [h n ((srt_perm _).mem_iff.mp hn)]
theorem bl_congr {l : Int} {ns : List Nt} : ∀ {ms ms' : List Tb} (i : Nat), Paired (fun t t' => ∀ r ∈ ns, lk t r.2.1 = lk t' r.2.1) ms ms' → blF l ns i ms = blF l ns i ms'
  | _, _, _, .nil => rfl
  | _, _, i, .cons h q => by
    unfold blF
    rw [some_congr (t' := _) (fun n hn => ?_), bl_congr (i + 1) q]
    rcases last_mem hn with z | ⟨r, hr, rfl⟩
    · cases z
    · exact h r hr
theorem bl_names {l : Int} {ns : List Nt} {j : Nat} {a b : Str} : ∀ {ms : List Tb} {i : Nat}, blF l ns i ms = some (j, a, b) → (∃ r ∈ ns, r.2.1 = a) ∧ ∃ r ∈ ns, r.2.1 = b
  | [], _, h => by cases h
  | t :: ms, i, h => by
    unfold blF at h
    split at h
    · rename_i x y z e
      have key : ∀ n ∈ someT l t (lastT (i : Int) ns []), ∃ r ∈ ns, r.2.1 = n := fun n hn => by
        have h1 := (srt_perm _).mem_iff.mp (List.mem_filter.mp hn |>.1)
        rcases last_mem h1 with q | q
        · cases q
        · exact q
      rw [e] at key
      cases h
      exact ⟨key _ (by simp), key _ (by simp)⟩
    · exact bl_names h
def resD : Option (Nat × Str × Str) → PyData
  | none => .none
  | some (i, a, b) => .tuple [.int (i : Int), .str a, .str b]
theorem res_dp {K : PySem.W.Frag} {H : Hp} {v : V} {r : Option (Nat × Str × Str)} (h : Res H v r) : Dp K H v (resD r) := by
  match r, h with
  | none, h => cases h; exact .non
  | some (i, a, b), ⟨p, e, g⟩ => cases e; exact .tup (SqT.of g) (.cons (.int _) (.cons (.str _) (.cons (.str _) .nil)))
theorem nm_ok : (names4.all fun n => PyData.strOk n && (decide (n.cps.size ≤ 2) && n.cps.toList.all fun c => decide (c < 16 ^ 8))) = true := by decide +kernel
theorem res_sh {r : Option (Nat × Str × Str)} (h : ∀ i a b, r = some (i, a, b) → a ∈ names4 ∧ b ∈ names4) : SeqAt.shaped (resD r) = true := by
  match r, h with
  | none, _ => decide
  | some (i, a, b), h =>
    obtain ⟨ha, hb⟩ := h i a b rfl
    have q1 := (Bool.and_eq_true_iff.mp (List.all_eq_true.mp nm_ok _ ha)).1
    have q2 := (Bool.and_eq_true_iff.mp (List.all_eq_true.mp nm_ok _ hb)).1
    simp [resD, SeqAt.shaped, PyData.canLay0, PyData.canLayAll0, PyData.depth, PyData.depthAll, q1, q2]
theorem Res.same {H H' : Hp} {v : V} {r : Option (Nat × Str × Str)} (h : Res H v r) (s : Same H H') : Res H' v r := by
  match r, h with
  | none, h => exact h
  | some (i, a, b), ⟨p, e, g⟩ => exact ⟨p, e, s _ _ g⟩
/-! repr -/
def tabD (t : Tb) : PyData := .dict (t.map fun p => (.str p.1, .int p.2))
def ntD (r : Nt) : PyData := .tuple [.int r.1, .str r.2.1, .int r.2.2]
def allD (ms : List Tb) (ns : List Nt) : PyData := .tuple [.list (ms.map tabD), .list (ns.map ntD)]
theorem nm_fit {n : Str} (h : n ∈ names4) {b dep : Nat} (hb : 2 ≤ b) : Fit b dep (.str n) := by
  have q := (Bool.and_eq_true_iff.mp (List.all_eq_true.mp nm_ok _ h)).2
  obtain ⟨q1, q2⟩ := Bool.and_eq_true_iff.mp q
  exact fit_str (Nat.le_trans (of_decide_eq_true q1) hb) q2
theorem all_fit {ms : List Tb} {ns : List Nt} {nms : List Str} (hn : NmOk nms) (hm : ∀ t ∈ ms, TbOk nms t) (l15 : ms.length ≤ 15) (hk : NtsOk ms nms ns) : Fit 10000 10 (allD ms ns) := by
  have f1 : ∀ d ∈ ms.map tabD, Fit 24 1 d := fun d hd => by
    obtain ⟨t, ht, rfl⟩ := List.mem_map.mp hd
    have ok := hm t ht
    refine fit_dict (n := 4) (b := 2) (dep := 0) (fun p hp => ?_) ?_
    · obtain ⟨q, hq, rfl⟩ := List.mem_map.mp hp
      have := ok.small q hq
      exact ⟨nm_fit (hn.sub _ (by rw [← ok.keys]; exact List.mem_map_of_mem hq)) (by decide), fit_int (by omega)⟩
    · rw [List.length_map, ← List.length_map (f := (·.1)), ok.keys]; exact hn.four
  have f2 : ∀ d ∈ ns.map ntD, Fit 24 1 d := fun d hd => by
    obtain ⟨r, hr, rfl⟩ := List.mem_map.mp hd
    have ok := hk.all r hr
    have h1 := ok.lo
    have h2 := ok.hi
    have h3 := ok.sm
    refine (fit_tup (n := 3) (b := 2) (dep := 0) (fun p hp => ?_) (by show 3 ≤ 3; decide)).mono (by decide) (by decide)
    simp only [List.mem_cons, List.not_mem_nil, or_false] at hp
    rcases hp with rfl | rfl | rfl
    · exact fit_int (by omega)
    · exact nm_fit (hn.sub _ ok.nm) (by decide)
    · exact fit_int (by omega)
  have g1 := fit_list (n := 15) f1 (by rw [List.length_map]; exact l15)
  have g2 := fit_list (n := 15) f2 (by rw [List.length_map]; have := hk.few; omega)
  refine (fit_tup (n := 2) (b := 15 * 25) (dep := 2) (fun p hp => ?_) (by show 2 ≤ 2; decide)).mono (by decide) (by decide)
  simp only [List.mem_cons, List.not_mem_nil, or_false] at hp
  rcases hp with rfl | rfl
  · exact g1
  · exact g2
theorem paired_map {α β γ : Type} {F : α → β → Prop} {G : V → γ → Prop} {f : α → V} {g : β → γ} (h : ∀ a b, F a b → G (f a) (g b)) : ∀ {xs : List α} {ys : List β}, Paired F xs ys → Paired G (xs.map f) (ys.map g)
  | _, _, .nil => .nil
  | _, _, .cons r t => .cons (h _ _ r) (paired_map h t)
theorem tab_shw {K : PySem.W.Frag} {H : Hp} {d : Addr} {t : Tb} (h : H d = some (.dK (tabK t))) : Shw K H (.ref d) (tabD t) := by
  refine shw_dic h ?_ ?_
  · unfold tabK; rw [List.map_map, List.map_map]; rfl
  · unfold tabK
    rw [List.map_map, List.map_map]
    clear h
    induction t with
    | nil => exact .nil
    | cons p r ih => exact .cons (shw_flat (v := .int p.2) True.intro) ih
theorem nt_shw {K : PySem.W.Frag} {H : Hp} {d : Addr} {r : Nt} (h : H d = some (.tup [.int r.1, .str r.2.1, .int r.2.2])) : Shw K H (.ref d) (ntD r) :=
  shw_tup (SqT.of h) (.cons (shw_flat (v := .int r.1) True.intro) (.cons (shw_flat (v := .str r.2.1) True.intro) (.cons (shw_flat (v := .int r.2.2) True.intro) .nil)))
theorem all_shw {K : PySem.W.Frag} {H : Hp} {L N p : Addr} {ms : List Tb} {ns : List Nt} (hM : MomAt H L ms) (hN : NotAt H N ns) (nL : L ≠ sysModules) (nN : N ≠ sysModules) (hp : H p = some (.tup [.ref L, .ref N])) : Shw K H (.ref p) (allD ms ns) := by
  obtain ⟨ps, g1, h1⟩ := hM
  obtain ⟨qs, g2, h2⟩ := hN
  exact shw_tup (SqT.of hp) (.cons (shw_lst (SqL.of g1) nL (paired_map (fun _ _ h => tab_shw h) h1)) (.cons (shw_lst (SqL.of g2) nN (paired_map (fun _ _ h => nt_shw h) h2)) .nil))

def PrAt (H : Hp) (D : Addr) (t : Tb) : Prop := ∃ ps : List Addr, H D = some (.lst (ps.map V.ref)) ∧ Paired (fun p (q : Str × Int) => H p = some (.tup [.str q.1, .int q.2])) ps t
theorem pr_dict {K : PySem.W.Frag} {H : Hp} {ps : List Addr} {t : Tb} (h : Paired (fun p (q : Str × Int) => H p = some (.tup [.str q.1, .int q.2])) ps t) : Paired (fun p kv => SqT K H p [kV kv.1, kv.2]) ps (tabK t) := by
  induction h with
  | nil => exact .nil
  | cons r _ ih => exact .cons (SqT.of r) ih
theorem at_st {t : TS} {R : Ends} {σ σ' : L2.St} {H : Hp} (e : σ = σ') (h : t R σ' H) : t R σ H := e ▸ h
theorem tab_getF {H : Hp} {d : Addr} {o : Obj} {t : Tb} {n : Str} {x : Int} (h : H d = some (.frz o (.dK (tabK t)))) (e : lk t n = some x) : DGet H d (.str n) (some (.int x)) := .inl ⟨tabK t, Sum.inr n, .inr ⟨o, h⟩, rfl, by rw [lk_val, e]; rfl⟩
theorem keep_not {a : Addr} {n : Nat} {H H' : Hp} {L : Addr} {ms : List Nt} (w : WellAt H a n) (k : Keep a H H') (nL : L ≠ a) (h : NotAt H L ms) : NotAt H' L ms := by
  obtain ⟨ps, h1, h2⟩ := h
  exact ⟨ps, k _ _ nL h1, Paired.mono (fun p r q => k _ _ (well_ne w q fun _ z => by cases z) q) h2⟩
/-- a table put in order -/
def turnT (t : Tb) : Tb := (srt (t.map (·.1))).map fun n => (n, (lk t n).getD 0)
theorem lk_map (f : Str → Int) {n : Str} : ∀ {ys : List Str}, n ∈ ys → lk (ys.map fun n => (n, f n)) n = some (f n)
  | [], h => by cases h
  | y :: ys, h => by
    rw [List.map_cons]
    unfold lk
    by_cases e : y = n
    · rw [if_pos e]; show some (f y) = _; rw [e]
    · rw [if_neg e]
      rcases List.mem_cons.mp h with z | z
      · exact absurd z.symm e
      · exact lk_map f z
theorem turn_lk {t : Tb} {n : Str} (h : n ∈ t.map (·.1)) : lk (turnT t) n = lk t n := by
  unfold turnT
  rw [lk_map (fun n => (lk t n).getD 0) ((srt_perm _).mem_iff.mpr h)]
  obtain ⟨x, e⟩ := lk_some h
  rw [e]
  rfl
theorem paired_turn {ns : List Nt} {nms : List Str} : ∀ {ms : List Tb}, (∀ t ∈ ms, TbOk nms t) → (∀ r ∈ ns, r.2.1 ∈ nms) → Paired (fun t t' => ∀ r ∈ ns, lk t r.2.1 = lk t' r.2.1) ms (ms.map turnT)
  | [], _, _ => .nil
  | t :: ms, h, g => .cons (fun r hr => (turn_lk (by rw [(h t (List.mem_cons_self ..)).keys]; exact g r hr)).symm) (paired_turn (fun t ht => h t (List.mem_cons_of_mem _ ht)) g)
theorem bl_turn {l : Int} {ns : List Nt} {ms ms' : List Tb} {nms : List Str} (h : ∀ t ∈ ms, TbOk nms t) (g : ∀ r ∈ ns, NtOk ms' nms r) : blF l ns 0 ms = blF l ns 0 (ms.map turnT) := bl_congr 0 (paired_turn h fun r hr => (g r hr).nm)
theorem bl_nil {l : Int} : ∀ {ms : List Tb} {i : Nat}, blF l [] i ms = none
  | [], _ => rfl
  | t :: ms, i => by
    have e : someT l t (lastT (i : Int) [] []) = [] := by
      unfold someT lastT srt
      simp
    unfold blF
    rw [e]
    exact bl_nil
def sp_law (K : PySem.W.Frag) : Sp := fun vs H Q _ => ∃ (a : Addr) (ns : List Int), vs = [.ref a] ∧ SqL K H a (ns.map V.int) ∧ ns.length ≤ 63 ∧ ∀ H', Q (.bl true) H'
theorem cut_mem {xs : List V} {lo hi : Option Int} {y : V} (h : y ∈ cutV xs lo hi) : y ∈ xs := List.mem_of_mem_drop (List.mem_of_mem_take h)
theorem cut_int {ns : List Int} {lo hi : Option Int} {x : V} (h : x ∈ cutV (ns.map V.int) lo hi) : ∃ i, x = .int i := by
  obtain ⟨i, _, rfl⟩ := List.mem_map.mp (cut_mem h)
  exact ⟨i, rfl⟩
theorem ok_law {P : Program} {w : World} {K : PySem.W.Frag} {mg : Str → Option Value} {base : Heap} {fd : FuncData} (T : Txt K mg) (F : FnP K "law" s_law [] fd) : FnG P w K mg base CX0 5 (He.ga K "law") fd ps_law (sp_law K) := by
  obtain ⟨fd__law_well, F__law_well⟩ := T.d__law_well
  have G__law_well := ok__law_well (P := P) (w := w) (base := base) T F__law_well
  have k__law_well := F__law_well.kp
  have b__law_well := bi__law_well F__law_well
  obtain ⟨fd__law_notes, F__law_notes⟩ := T.d__law_notes
  have G__law_notes := ok__law_notes (P := P) (w := w) (base := base) T F__law_notes
  have k__law_notes := F__law_notes.kp
  have b__law_notes := bi__law_notes F__law_notes
  obtain ⟨fd__law_cell_at, F__law_cell_at⟩ := T.d__law_cell_at
  have G__law_cell_at := ok__law_cell_at (P := P) (w := w) (base := base) T F__law_cell_at
  have k__law_cell_at := F__law_cell_at.kp
  have b__law_cell_at := bi__law_cell_at F__law_cell_at
  obtain ⟨fd__law_draw, F__law_draw⟩ := T.d__law_draw
  have G__law_draw := ok__law_draw (P := P) (w := w) (base := base) T F__law_draw
  have k__law_draw := F__law_draw.kp
  have b__law_draw := bi__law_draw F__law_draw
  obtain ⟨fd__law_due, F__law_due⟩ := T.d__law_due
  have G__law_due := ok__law_due (P := P) (w := w) (base := base) T F__law_due
  have k__law_due := F__law_due.kp
  have b__law_due := bi__law_due F__law_due
  obtain ⟨fd_both_lead, F_both_lead⟩ := T.d_both_lead
  have G_both_lead := ok_both_lead (P := P) (w := w) (base := base) T F_both_lead
  have k_both_lead := F_both_lead.kp
  have b_both_lead := bi_both_lead F_both_lead
  refine okG F sc_law (fun vs H Q E h => ?len) (fun cdv A outer s H vs Q E hr hG h => ?body)
  case len => obtain ⟨a, ns, rfl, hS, hlen, k⟩ := h; rfl
  case body =>
  obtain ⟨a, ns, rfl, hS, hlen, k⟩ := h
  have hu := hu_of hr
  refine ⟨_, PSs.nox (pss_cons (ps_for PassesOwn.never rfl (pi_list (pe_op op_cat (pe_lst (pa_cons (pe_call G__law_cell_at (hr.mono (by first | decide | omega)) rfl T.g__law_cell_at k__law_cell_at b__law_cell_at .nil pass0 (pa_cons (pv 0) (pa_cons pe_int pa_nil))) pa_nil)) (pe_slice sl_list (pv 0) (po_some pe_int) (po_some pe_int)))) (pg_name (i := 1) sc_law.nd rfl (Or.inl rfl))
      (pss_cons (ps_set (i := 2) sc_law.nd rfl (Or.inr rfl) (pe_call G__law_well (hr.mono (by first | decide | omega)) rfl T.g__law_well k__law_well b__law_well .nil pass0 (pa_cons (pv 1) pa_nil)))
        (pss_cons (ps_set (i := 3) sc_law.nd rfl (Or.inl rfl) (pe_slice sl_list (pe_lst (pa_cons pe_str (pa_cons pe_str (pa_cons pe_str (pa_cons pe_str pa_nil))))) po_none (po_some (pe_op op_add pe_int (pe_call G__law_draw (hr.mono (by first | decide | omega)) rfl T.g__law_draw k__law_draw b__law_draw .nil pass0 (pa_cons (pv 2) (pa_cons pe_int pa_nil)))))))
        (pss_cons (ps_asg (pe_tup (pa_cons (pe_callTy (call_dictP rfl) (by rfl) T.n_dict (by decide +kernel) (pa_cons (pe_lc (own := [("_law_name", 12)]) rfl sc_law.nd (pi_list (pv 3)) (blkOk_by (own := [("_law_name", 12)]) (N := N_law) (sc := defScope s_law) (by decide +kernel)) (fun _ _ _ _ _ => (pg_name (i := 12) sc_law.nd rfl (Or.inl rfl))) (fun _ _ _ _ _ => pts_nil) (fun _ _ _ _ _ => (pe_tup (pa_cons (pv 12) (pa_cons (pe_call G__law_draw (hr.mono (by first | decide | omega)) rfl T.g__law_draw k__law_draw b__law_draw .nil pass0 (pa_cons (pv 2) (pa_cons pe_int pa_nil))) pa_nil))))) pa_nil)) (pa_cons (pe_lstB pa_nil) pa_nil))) (pg_tup rfl (pgs_cons (pg_name (i := 4) sc_law.nd rfl (Or.inr rfl)) (pgs_cons (pg_name (i := 5) sc_law.nd rfl (Or.inl rfl)) pgs_nil))))
        (pss_cons (ps_for PassesOwn.never rfl (pi_range1 rfl T.n_range (pa_cons (pe_call G__law_draw (hr.mono (by first | decide | omega)) rfl T.g__law_draw k__law_draw b__law_draw .nil pass0 (pa_cons (pv 2) (pa_cons pe_int pa_nil))) pa_nil)) (pg_name (i := 6) sc_law.nd rfl (Or.inl rfl))
          (pss_cons (ps_set (i := 4) sc_law.nd rfl (Or.inr rfl) (pe_callTy (call_dictP rfl) (by rfl) T.n_dict (by decide +kernel) (pa_cons (pe_lock (pe_lc (own := [("_law_name", 12)]) rfl sc_law.nd (pi_keys (pv 4)) (blkOk_by (own := [("_law_name", 12)]) (N := N_law) (sc := defScope s_law) (by decide +kernel)) (fun _ _ _ _ _ => (pg_name (i := 12) sc_law.nd rfl (Or.inl rfl))) (fun _ _ _ _ _ => pts_nil) (fun _ _ _ _ _ => (pe_tup (pa_cons (pv 12) (pa_cons (pe_op op_add (pe_dget hu (pv 4) (pv 12) (fun _ _ => rfl)) (pe_call G__law_draw (hr.mono (by first | decide | omega)) rfl T.g__law_draw k__law_draw b__law_draw .nil pass0 (pa_cons (pv 2) (pa_cons pe_int pa_nil)))) pa_nil)))))) pa_nil)))
            (pss_one (ps_expr (pe_bm PySem.F.plainAttrs_list PySem.F.slot_list_append PySem.F.type_list_append mt_append (pv 5) (pa_cons (pv 4) pa_nil))))))
        (pss_cons (ps_set (i := 7) sc_law.nd rfl (Or.inl rfl) (pe_call G__law_notes (hr.mono (by first | decide | omega)) rfl T.g__law_notes k__law_notes b__law_notes .nil pass0 (pa_cons (pv 2) (pa_cons (pv 5) (pa_cons (pv 3) pa_nil)))))
        (pss_one (ps_for PassesOwn.never rfl (pi_list (pe_lst (pa_cons pe_int (pa_cons pe_int (pa_cons (pe_op op_add pe_int (pe_call G__law_draw (hr.mono (by first | decide | omega)) rfl T.g__law_draw k__law_draw b__law_draw .nil pass0 (pa_cons (pv 2) (pa_cons pe_int pa_nil)))) (pa_cons pe_int pa_nil)))))) (pg_name (i := 8) sc_law.nd rfl (Or.inl rfl))
          (pss_cons (ps_set (i := 9) sc_law.nd rfl (Or.inl rfl) (pe_callB (call_repr hG hr.units) (by rfl) T.n_repr (by decide +kernel) (pa_cons (pe_tup (pa_cons (pv 5) (pa_cons (pv 7) pa_nil))) pa_nil)))
            (pss_cons (ps_set (i := 10) sc_law.nd rfl (Or.inl rfl) (pe_call G__law_due (hr.mono (by first | decide | omega)) rfl T.g__law_due k__law_due b__law_due .nil pass0 (pa_cons (pv 8) (pa_cons (pv 5) (pa_cons (pv 7) pa_nil)))))
            (pss_cons (ps_if (PW.pt (pw_or (pt_cmpR (op_neD hr.units) (pe_call G_both_lead (hr.mono (by first | decide | omega)) rfl T.g_both_lead k_both_lead b_both_lead .nil pass0 (pa_cons (pv 8) (pa_cons (pv 5) (pa_cons (pv 7) pa_nil)))) (pv 10) (nomark _)) (pw_or1 (pt_cmpR op_ne (pe_callB (call_repr hG hr.units) (by rfl) T.n_repr (by decide +kernel) (pa_cons (pe_tup (pa_cons (pv 5) (pa_cons (pv 7) pa_nil))) pa_nil)) (pv 9) (nomark _))))) (pss_one (ps_ret pe_bl)) pss_nil)
            (pss_cons (ps_setLc (i := 11) (own := [("_law_table", 13)]) (te := tCB (rDictP K) (tCons (tLc (iList K (tCB rSD (tCons (tVar 13) tNil))) (gName 12) tYes (tTup (tCons (tVar 12) (tCons (tDGet (tVar 13) (tVar 12)) tNil))) [12]) tNil)) rfl sc_law.nd rfl rfl (sw_true rfl rfl rfl (by decide +kernel)) (pi_list (pv 5)) (blkOk_by (own := [("_law_table", 13)]) (N := N_law) (sc := defScope s_law) (by decide +kernel)) (fun _ _ _ _ _ => (pg_name (i := 13) sc_law.nd rfl (Or.inr rfl))) (fun _ _ _ _ _ => pts_nil) (fun _ _ _ _ _ => (pe_callTy (show CallR _ (.type "dict") (rDictP K) from call_dictP rfl) (by rfl) T.n_dict (by decide +kernel) (pa_cons (pe_lc (own := [("_law_name", 12)]) rfl sc_law.nd (pi_list (pe_callB (show CallR _ (.builtin "sorted") rSD from call_sortedD rfl) (by rfl) T.n_sorted (by decide +kernel) (pa_cons (pv 13) pa_nil))) (blkOk_by (own := [("_law_name", 12)]) (N := N_law) (by kernel_rfl)) (fun _ _ _ _ _ => (pg_name (i := 12) sc_law.nd rfl (Or.inl rfl))) (fun _ _ _ _ _ => pts_nil) (fun _ _ _ _ _ => (pe_tup (pa_cons (pv 12) (pa_cons (pe_dget hu (pv 13) (pv 12) (fun _ _ => rfl)) pa_nil))))) pa_nil))))
            (pss_one (ps_if (pt_cmpR (op_neD hr.units) (pe_call G_both_lead (hr.mono (by first | decide | omega)) rfl T.g_both_lead k_both_lead b_both_lead .nil pass0 (pa_cons (pv 8) (pa_cons (pv 11) (pa_cons (pv 7) pa_nil)))) (pv 10) (nomark _)) (pss_one (ps_ret pe_bl)) pss_nil))))))))))))))
    (pss_one (ps_ret (pe_and (pe_cmpR op_isN (pe_call G_both_lead (hr.mono (by first | decide | omega)) rfl T.g_both_lead k_both_lead b_both_lead .nil pass0 (pa_cons pe_int (pa_cons (pe_lstB pa_nil) (pa_cons (pe_lstB pa_nil) pa_nil)))) pe_non (nomark _)) (pe_one (pe_cmpR op_isN (pe_call G_both_lead (hr.mono (by first | decide | omega)) rfl T.g_both_lead k_both_lead b_both_lead .nil pass0 (pa_cons pe_int (pa_cons (pe_lst (pa_cons (pe_disp (pps_cons pe_str pe_int (pps_cons pe_str pe_int pps_nil)) (by rfl) (by rfl) (fun z => by cases z) (by decide)) pa_nil)) (pa_cons (pe_lstB pa_nil) pa_nil)))) pe_non (nomark _))))))), ?_⟩
  refine ⟨_, rfl, a, ns, rfl, hS, fun i0 => ⟨smallN (by show 1 ≤ 1000; decide), fun p1 q1 => ?_⟩⟩
  have S1 := Same.new (u := .lst [.int i0]) q1
  have g1 : (upd H p1 (.lst [.int i0])) p1 = _ := upd_same
  generalize upd H p1 (.lst [.int i0]) = H1 at S1 g1 ⊢
  refine ⟨_, rfl, _, rfl, _, rfl, a, _, rfl, S1.seq hS, fun p2 q2 => ?_⟩
  have S2 := Same.new (u := .lst (cutV (ns.map V.int) (some 1) (some 5))) q2
  have g2 : (upd H1 p2 (.lst (cutV (ns.map V.int) (some 1) (some 5)))) p2 = _ := upd_same
  generalize upd H1 p2 (.lst (cutV (ns.map V.int) (some 1) (some 5))) = H2 at S2 g2 ⊢
  have hc : (cutV (ns.map V.int) (some 1) (some 5)).length ≤ 63 := Nat.le_trans (cutV_length _ _ _) (by rw [List.length_map]; exact hlen)
  refine ⟨p1, p2, _, _, rfl, rfl, S2 _ _ g1, g2, smallN (by show 1 + _ ≤ 1000; omega), fun p3 q3 => ?_⟩
  have g3 : (upd H2 p3 (.lst ([.int i0] ++ cutV (ns.map V.int) (some 1) (some 5)))) p3 = _ := upd_same
  generalize upd H2 p3 (.lst ([.int i0] ++ cutV (ns.map V.int) (some 1) (some 5))) = H3 at g3 ⊢
  clear S1 S2 g1 g2 q1 q2 q3
  generalize hcells : [V.int i0] ++ cutV (ns.map V.int) (some 1) (some 5) = cells at g3 ⊢
  have hci : ∀ x ∈ cells, ∃ z, x = .int z := fun x hx => by
    rw [← hcells] at hx
    rcases List.mem_append.mp hx with h | h
    · exact ⟨i0, List.mem_singleton.mp h⟩
    · exact cut_int h
  clear hcells hc
  refine ⟨p3, rfl, ⟨_, SqL.of g3⟩, for_list (K := K) (a := p3) (xs := cells) (fun _ σ H' => ∃ v1 v2 v3 v4 v5 v6 v7 v8 v9 v10 v11 v12 v13 : Option V, σ = [some (.ref a), v1, v2, v3, v4, v5, v6, v7, v8, v9, v10, v11, v12, v13] ∧ H' p3 = some (.lst cells))
    ⟨_, _, _, _, _, _, _, _, _, _, _, _, _, rfl, g3⟩ (fun _ σ H' _ ⟨_, _, _, _, _, _, _, _, _, _, _, _, _, _, g⟩ => SqL.of g) ?_ ?_⟩
  · rintro j x σ H4 hx ⟨v1, v2, v3, v4, v5, v6, v7, v8, v9, v10, v11, v12, v13, rfl, g4⟩
    obtain ⟨z, rfl⟩ := hci x (mem_at hx)
    refine ⟨_, rfl, z, rfl, fun aw u0 hw0 hu0 => ?_⟩
    have w5 := well_upd (H := H4) (a := aw) hu0
    have n3 : p3 ≠ aw := ne_of_none g4 hw0
    have g5 := (Same.new (u := u0) hw0) _ _ g4
    generalize upd H4 aw u0 = H5 at w5 g5 ⊢
    refine ⟨smallN (by show 4 ≤ 1000; decide), fun p6 q6 => ?_⟩
    have S6 := Same.new (u := .lst [.str "b", .str "aa", .str "a", .str "c"]) q6
    have g6 : upd H5 p6 (.lst [.str "b", .str "aa", .str "a", .str "c"]) p6 = _ := upd_same
    have w6 := well_same w5 S6
    have n6 : p6 ≠ aw := well_ne3 w5 q6
    have g56 := S6 _ _ g5
    generalize upd H5 p6 (.lst [.str "b", .str "aa", .str "a", .str "c"]) = H6 at S6 g6 w6 g56 ⊢
    refine ⟨_, rfl, aw, 0, 4, rfl, w6, by omega, by decide, by decide, fun r u7 m7 r0 r1 hm7 hu7 => ?_⟩
    have w7 := well_upd (H := H6) (a := aw) hu7
    have K7 : Keep aw H6 (upd H6 aw u7) := Keep.at_
    generalize upd H6 aw u7 = H7 at w7 K7 ⊢
    obtain ⟨nms, enm, hnm⟩ := names_cut r0 r1
    have enm : cutV [V.str "b", .str "aa", .str "a", .str "c"] none (some (1 + r)) = nms.map V.str := enm
    refine ⟨_, _, rfl, rfl, _, rfl, p6, _, rfl, SqL.of (K7 _ _ n6 g6), fun p8 q8 => ?_⟩
    rw [enm]
    have S8 := Same.new (u := .lst (nms.map V.str)) q8
    have g8 : upd H7 p8 (.lst (nms.map V.str)) p8 = _ := upd_same
    have w8 := well_same w7 S8
    have n8 : p8 ≠ aw := well_ne3 w7 q8
    have g58 := S8 _ _ (K7 _ _ n3 g56)
    generalize upd H7 p8 (.lst (nms.map V.str)) = H8 at S8 g8 w8 g58 ⊢
    clear enm S6 g6 w6 g56 w5 g5 w7 K7 S8 q8 q6 n6
    show tSeq _ _ _ _ _
    refine at_st (σ' := [some (.ref a), some (.int z), some (.ref aw), some (.ref p8), v4, v5, v6, v7, v8, v9, v10, v11, v12, v13]) rfl ?_
    refine ⟨_, rfl, p8, rfl, ⟨_, SqL.of g8⟩, fun D hD => ?_⟩
    have nD : D ≠ aw := well_ne3 w8 hD
    refine lc_it (walk_list (xs := nms.map V.str)) (fun i H' => ∃ (n' : Nat) (t : Tb), Keep aw H8 H' ∧ WellAt H' aw n' ∧ n' ≤ m7 + i ∧ PrAt H' D t ∧ t.map (·.1) = nms.take i ∧ ∀ p ∈ t, 0 ≤ p.2 ∧ p.2 ≤ 6)
      ⟨m7, [], Keep.new hD, well_same w8 (Same.new hD), by omega, ⟨[], upd_same, .nil⟩, rfl, fun p hp => by cases hp⟩ (fun i H' _ ⟨_, _, k, _⟩ => SqL.of (k _ _ n8 g8)) ?_ ?_
    · rintro i x _ H9 hi ⟨n9, t, K9, w9, hn9, ⟨ps, gD, hps⟩, ek, hb⟩ ⟨rfl, ex⟩
      rw [List.getElem?_map] at ex
      obtain ⟨nm, en, rfl⟩ := Option.map_eq_some_iff.mp ex
      have hi4 := lt_at en
      have h4 := hnm.four
      refine ⟨rfl, yes_ (iteT ?_)⟩
      refine ⟨_, rfl, _, rfl, aw, n9, 6, rfl, w9, by omega, by decide, by decide, fun y ua na y0 y1 hna hua => ?_⟩
      have wa := well_upd (H := H9) (a := aw) hua
      have Ka : Keep aw H9 (upd H9 aw ua) := Keep.at_
      generalize upd H9 aw ua = Ha at wa Ka ⊢
      refine ⟨smallN (by show 2 ≤ 1000; decide), fun T hT => ?_⟩
      have ST := Same.new (u := .tup [.str nm, .int y]) hT
      have gT : upd Ha T (.tup [.str nm, .int y]) T = _ := upd_same
      have wb := well_same wa ST
      have Kb := Ka.trans (Keep.of ST)
      generalize upd Ha T (.tup [.str nm, .int y]) = Hb at ST gT wb Kb ⊢
      have gDb := Kb _ _ nD gD
      have lps := paired_len hps
      have lt : t.length = i := by
        have := congrArg List.length ek
        rw [List.length_map, List.length_take] at this
        omega
      refine ⟨_, gDb, small1000 (by rw [List.length_map]; omega), na, t ++ [(nm, y)], ?_, ?_, by omega, ⟨ps ++ [T], ?_, ?_⟩, ?_, ?_⟩
      · exact fun b o hb hbo => by rw [upd_ne (ne_of_none hbo hD)]; exact Kb b o hb (K9 b o hb hbo)
      · obtain ⟨v, hv, o⟩ := wb
        exact ⟨v, by rw [upd_ne nD.symm]; exact hv, o⟩
      · rw [upd_same, List.map_append]; rfl
      · refine paired_snoc' (Paired.mono (fun p r q => ?_) hps) ?_
        · rw [upd_ne (ne_of q gD fun z => by cases z)]
          exact Kb _ _ (well_ne w9 q fun _ z => by cases z) q
        · show upd Hb D _ T = _
          rw [upd_ne (ne_of gT gDb fun z => by cases z)]; exact gT
      · rw [List.map_append, ek, get_take en]; rfl
      · intro p hp
        rcases List.mem_append.mp hp with h | h
        · exact hb p h
        · rw [List.mem_singleton.mp h]; exact ⟨y0, by show y ≤ 6; omega⟩
    · rintro H9 ⟨n9, t, K9, w9, hn9, ⟨ps, gD, hps⟩, ek, hb⟩
      rw [List.length_map, List.take_length] at ek
      rw [List.length_map] at hn9
      have h4 := hnm.four
      refine ⟨D, ps, tabK t, rfl, SqL.of gD, pr_dict hps, fun pc qc => ?_⟩
      rw [merge_nil (by rw [ek]; exact hnm.nd)]
      have Sc := Same.new (u := .dK (tabK t)) qc
      have gc : upd H9 pc (.dK (tabK t)) pc = _ := upd_same
      have wc := well_same w9 Sc
      have Kc := K9.trans (Keep.of Sc)
      generalize upd H9 pc (.dK (tabK t)) = Hc at Sc gc wc Kc ⊢
      refine ⟨smallN (by show 0 ≤ 1000; decide), fun L qL nLs => ?_⟩
      have SL := Same.new (u := .lst []) qL
      have gL : upd Hc L (.lst []) L = _ := upd_same
      have wL := well_same wc SL
      have KL := Kc.trans (Keep.of SL)
      have nL : L ≠ aw := well_ne3 wc qL
      have n3L : p3 ≠ L := ne_of_none (Kc _ _ n3 g58) qL
      have n8L : p8 ≠ L := ne_of_none (Kc _ _ n8 g8) qL
      have gcL := SL _ _ gc
      generalize upd Hc L (.lst []) = Hd at SL gL wL KL gcL ⊢
      refine ⟨smallN (by show 2 ≤ 1000; decide), fun pt qt => ?_⟩
      have Se := Same.new (u := .tup [.ref pc, .ref L]) qt
      have ge : upd Hd pt (.tup [.ref pc, .ref L]) pt = _ := upd_same
      have we := well_same wL Se
      have Ke := KL.trans (Keep.of Se)
      have gLe := Se _ _ gL
      have gce := Se _ _ gcL
      generalize upd Hd pt (.tup [.ref pc, .ref L]) = He at Se ge we Ke gLe gce ⊢
      refine ⟨pt, _, rfl, SqT.of ge, rfl, _, _, rfl, _, _, rfl, rfl, ?_⟩
      have npc : pc ≠ aw := well_ne we gce fun _ z => by cases z
      have g3e := Ke _ _ n3 g58
      have g8e := Ke _ _ n8 g8
      have tok : TbOk nms t := ⟨ek, fun p hp => by have := hb p hp; omega⟩
      clear Se ge wL KL SL gL gcL qL qt Sc gc wc Kc qc gD hps K9 w9 hD nD
      show tSeq _ _ _ _ _
      refine at_st (σ' := [some (.ref a), some (.int z), some (.ref aw), some (.ref p8), some (.ref pc), some (.ref L), v6, v7, v8, v9, v10, v11, v12, v13]) rfl ?_
      refine ⟨_, rfl, aw, n9, 16, rfl, we, by omega, by decide, by decide, fun rr uf mf rr0 rr1 hmf huf => ?_⟩
      have wf := well_upd (H := He) (a := aw) huf
      have Kf : Keep aw He (upd He aw uf) := Keep.at_
      generalize upd He aw uf = Hf at wf Kf ⊢
      obtain ⟨c, rfl⟩ := Int.eq_ofNat_of_zero_le rr0
      refine ⟨(c : Int), rfl, by omega, by omega, for_range (lo := 0) (n := c) (fun i σ H' => ∃ (v6 : Option V) (pc : Addr) (t : Tb) (n' : Nat) (ms : List Tb), σ = [some (.ref a), some (.int z), some (.ref aw), some (.ref p8), some (.ref pc), some (.ref L), v6, v7, v8, v9, v10, v11, v12, v13] ∧ H' p3 = some (.lst cells) ∧ H' p8 = some (.lst (nms.map V.str)) ∧ WellAt H' aw n' ∧ n' ≤ 30 + 4 * i ∧
          H' pc = some (.dK (tabK t)) ∧ pc ≠ aw ∧ t.map (·.1) = nms ∧ (∀ p ∈ t, 0 ≤ p.2 ∧ p.2 ≤ 6 + 3 * (i : Int)) ∧ MomAt H' L ms ∧ ms.length = i ∧ ∀ t ∈ ms, TbOk nms t)
        ⟨_, pc, t, mf, [], rfl, Kf _ _ n3 g3e, Kf _ _ n8 g8e, wf, by omega, Kf _ _ npc gce, npc, ek, (fun p hp => by have := hb p hp; omega), ⟨[], Kf _ _ nL gLe, .nil⟩, rfl, fun t ht => by cases ht⟩ ?_ ?_⟩
      · clear tok wf Kf we Ke gLe gce npc g3e g8e ek hb hmf huf
        rintro i σ Hg hi ⟨v6, pc, t, ng, ms, rfl, g3g, g8g, wg, hng, gpc, npc, ek, hb, hM, lm, hms⟩
        have h4 := hnm.four
        refine ⟨pc, _, gpc, True.intro, fun od => ?_⟩
        have w1 : WellAt (upd Hg pc (.frz od (.dK (tabK t)))) aw ng := by
          obtain ⟨v, hv, o⟩ := wg
          exact ⟨v, by rw [upd_ne npc.symm]; exact hv, o⟩
        have gz : upd Hg pc (.frz od (.dK (tabK t))) pc = some (.frz od (.dK (tabK t))) := upd_same
        refine ⟨_, rfl, pc, od, rfl, .inl ⟨tabK t, gz, fun D hD => ?_⟩⟩
        have nD : D ≠ aw := well_ne3 w1 hD
        have nDp : D ≠ pc := fun e => by rw [e, gz] at hD; cases hD
        have hDg : Hg D = none := by rw [upd_ne nDp] at hD; exact hD
        have Kg : ∀ b o, b ≠ pc → Hg b = some o → upd Hg pc (.frz od (.dK (tabK t))) b = some o := fun b o n h => by rw [upd_ne n]; exact h
        generalize upd Hg pc (.frz od (.dK (tabK t))) = H1 at w1 gz hD Kg ⊢
        refine lc_it (walk_keys (kvs := tabK t)) (fun j H' => ∃ (n' : Nat) (t' : Tb), Keep aw H1 H' ∧ WellAt H' aw n' ∧ n' ≤ ng + j ∧ PrAt H' D t' ∧ t'.map (·.1) = nms.take j ∧ ∀ p ∈ t', 0 ≤ p.2 ∧ p.2 ≤ 6 + 3 * ((i : Int) + 1))
          ⟨ng, [], Keep.new hD, well_same w1 (Same.new hD), by omega, ⟨[], upd_same, .nil⟩, rfl, fun p hp => by cases hp⟩ (fun j H' _ ⟨_, _, k, _⟩ => k _ _ npc gz) ?_ ?_
        · rintro j x _ H2 hj ⟨n2, t', K2, w2, hn2, ⟨ps, gD, hps⟩, ek', hb'⟩ ⟨rfl, k, v, ekv, rfl⟩
          obtain ⟨q, eq, ekq⟩ : ∃ q, t[j]? = some q ∧ (Sum.inr q.1, V.int q.2) = (k, v) := by
            unfold tabK at ekv
            rw [List.getElem?_map] at ekv
            exact Option.map_eq_some_iff.mp ekv
          cases ekq
          have en : nms[j]? = some q.1 := by rw [← ek, List.getElem?_map, eq]; rfl
          have hjl := lt_at en
          have elk : lk t q.1 = some q.2 := lk_of_mem (by rw [ek]; exact hnm.nd) (mem_at eq)
          have hq := hb q (mem_at eq)
          refine ⟨rfl, yes_ (iteT ?_)⟩
          refine ⟨_, rfl, _, rfl, _, rfl, pc, _, rfl, tab_getF (K2 _ _ npc gz) elk, _, rfl, aw, n2, 3, rfl, w2, by omega, by decide, by decide, fun y ua na y0 y1 hna hua => ?_⟩
          have wa := well_upd (H := H2) (a := aw) hua
          have Ka : Keep aw H2 (upd H2 aw ua) := Keep.at_
          generalize upd H2 aw ua = Ha at wa Ka ⊢
          refine ⟨_, _, rfl, rfl, smallN (by show 2 ≤ 1000; decide), fun T hT => ?_⟩
          have ST := Same.new (u := .tup [.str q.1, .int (q.2 + y)]) hT
          have gT : upd Ha T (.tup [.str q.1, .int (q.2 + y)]) T = _ := upd_same
          have wb := well_same wa ST
          have Kb := Ka.trans (Keep.of ST)
          have gDb := Kb _ _ nD gD
          have lps := paired_len hps
          have lt : t'.length = j := by
            have := congrArg List.length ek'
            rw [List.length_map, List.length_take] at this
            omega
          refine ⟨_, gDb, small1000 (by rw [List.length_map]; omega), na, t' ++ [(q.1, q.2 + y)], ?_, ?_, by omega, ⟨ps ++ [T], ?_, ?_⟩, ?_, ?_⟩
          · exact fun b o hb hbo => by rw [upd_ne (ne_of_none hbo hD)]; exact Kb b o hb (K2 b o hb hbo)
          · obtain ⟨v, hv, o⟩ := wb
            exact ⟨v, by rw [upd_ne nD.symm]; exact hv, o⟩
          · rw [upd_same, List.map_append]; rfl
          · refine paired_snoc' (Paired.mono (fun p r q => ?_) hps) ?_
            · rw [upd_ne (ne_of q gD fun z => by cases z)]
              exact Kb _ _ (well_ne w2 q fun _ z => by cases z) q
            · show upd (upd Ha T (.tup [.str q.1, .int (q.2 + y)])) D _ T = _
              rw [upd_ne (ne_of gT gDb fun z => by cases z)]; exact gT
          · rw [List.map_append, ek', get_take en]; rfl
          · intro p hp
            rcases List.mem_append.mp hp with h | h
            · exact hb' p h
            · rw [List.mem_singleton.mp h]
              exact ⟨by show 0 ≤ q.2 + y; omega, by show q.2 + y ≤ _; omega⟩
        · rintro H2 ⟨n2, t', K2, w2, hn2, ⟨ps, gD, hps⟩, ek', hb'⟩
          have ltab : (tabK t).length = nms.length := by unfold tabK; rw [List.length_map, ← ek, List.length_map]
          rw [ltab] at ek' hn2
          rw [List.take_length] at ek'
          refine ⟨K2 _ _ npc gz, ?_⟩
          have K3 : Keep aw Hg (upd H2 pc (.dK (tabK t))) := fun b o hb hbo => by
            by_cases e : b = pc
            · rw [e, upd_same, ← gpc, ← e, hbo]
            · rw [upd_ne e]; exact K2 _ _ hb (Kg _ _ e hbo)
          have w3 : WellAt (upd H2 pc (.dK (tabK t))) aw n2 := by
            obtain ⟨v, hv, o⟩ := w2
            exact ⟨v, by rw [upd_ne npc.symm]; exact hv, o⟩
          have gD3 : upd H2 pc (.dK (tabK t)) D = some (.lst (ps.map V.ref)) := by rw [upd_ne nDp]; exact gD
          have hps3 : Paired (fun p (q : Str × Int) => upd H2 pc (.dK (tabK t)) p = some (.tup [.str q.1, .int q.2])) ps t' := Paired.mono (fun p r q => by
            rw [upd_ne (ne_of q (K2 _ _ npc gz) fun z => by cases z)]; exact q) hps
          generalize upd H2 pc (.dK (tabK t)) = H3 at K3 w3 gD3 hps3 ⊢
          refine ⟨D, ps, tabK t', rfl, SqL.of gD3, pr_dict hps3, fun pn qn => ?_⟩
          rw [merge_nil (by rw [ek']; exact hnm.nd)]
          have S4 := Same.new (u := .dK (tabK t')) qn
          have g4' : upd H3 pn (.dK (tabK t')) pn = _ := upd_same
          have w4 := well_same w3 S4
          have K4 := K3.trans (Keep.of S4)
          generalize upd H3 pn (.dK (tabK t')) = H4' at S4 g4' w4 K4 ⊢
          have npn : pn ≠ aw := well_ne w4 g4' fun _ z => by cases z
          have M4 := keep_mom wg K4 nL hM
          obtain ⟨mp, gm, hmp⟩ := id M4
          have lmp := paired_len hmp
          refine ⟨_, rfl, .inl ⟨rfl, _, SqL.of gm⟩, _, rfl, L, _, _, rfl, rfl, gm, small1000 (by rw [List.length_map]; omega), _, pn, t', n2, ms ++ [t'], rfl, ?_, ?_, ?_, by omega, ?_, npn, ek', ?_, ⟨mp ++ [pn], ?_, ?_⟩, ?_, ?_⟩
          · rw [upd_ne n3L]; exact K4 _ _ n3 g3g
          · rw [upd_ne n8L]; exact K4 _ _ n8 g8g
          · obtain ⟨v, hv, o⟩ := w4
            exact ⟨v, by rw [upd_ne nL.symm]; exact hv, o⟩
          · rw [upd_ne (ne_of g4' gm fun z => by cases z)]; exact g4'
          · intro p hp
            have := hb' p hp
            push_cast
            omega
          · rw [upd_same, List.map_append]; rfl
          · refine paired_snoc' (Paired.mono (fun p r q => ?_) hmp) ?_
            · rw [upd_ne (ne_of q gm fun z => by cases z)]; exact q
            · show upd H4' L _ pn = _
              rw [upd_ne (ne_of g4' gm fun z => by cases z)]; exact g4'
          · rw [List.length_append, lm]; rfl
          · intro q hq
            rcases List.mem_append.mp hq with h | h
            · exact hms q h
            · rw [List.mem_singleton.mp h]
              exact ⟨ek', fun p hp => by have := hb' p hp; omega⟩
      · clear tok wf Kf we Ke gLe gce npc g3e g8e ek hb hmf huf
        rintro σ Hg ⟨v6, pc, t, ng, ms, rfl, g3g, g8g, wg, hng, gpc, npc, ek, hb, hM, lm, hms⟩
        have h4 := hnm.four
        refine ⟨_, rfl, _, rfl, _, rfl, aw, L, p8, ng, ms, nms, rfl, wg, by omega, hM, nL, g8g, n8, hnm.some, h4, by omega, fun t ht nm hn => (hms t ht).get hn, fun N nts Hh nh hN0 nNs Kh wh hnh hN nok => ?_⟩
        have hMh := keep_mom wg Kh nL hM
        have g3h := Kh _ _ n3 g3g
        have nN : N ≠ aw := well_ne3 wg hN0
        have fit := (all_fit hnm hms (by omega) nok).shown (by decide) (by decide)
        have hin : ∀ t ∈ ms, ∀ r ∈ nts, ∃ x, lk t r.2.1 = some x := fun t ht r hr => by
          obtain ⟨x, e, _⟩ := (hms t ht).get (nok.all r hr).nm
          exact ⟨x, e⟩
        have n60 : nts.length < 60 := by have := nok.few; omega
        clear g3g g8g wg gpc npc ek hb hM Kh
        show tSeq _ _ _ _ _
        refine at_st (σ' := [some (.ref a), some (.int z), some (.ref aw), some (.ref p8), some (.ref pc), some (.ref L), v6, some (.ref N), v8, v9, v10, v11, v12, v13]) rfl ?_
        refine ⟨_, rfl, aw, nh, 9, rfl, wh, by omega, by decide, by decide, fun rs ui mi rs0 rs1 hmi hui => ?_⟩
        have Ki : Keep aw Hh (upd Hh aw ui) := Keep.at_
        have hMi := keep_mom wh Ki nL hMh
        have hNi := keep_not wh Ki nN hN
        have g3i := Ki _ _ n3 g3h
        generalize upd Hh aw ui = Hi at Ki hMi hNi g3i ⊢
        refine ⟨_, _, rfl, rfl, smallN (by show 4 ≤ 1000; decide), fun pl ql => ?_⟩
        have Sj := Same.new (u := .lst [.int 1, .int 2, .int (1 + rs), .int 999]) ql
        have gj : upd Hi pl (.lst [.int 1, .int 2, .int (1 + rs), .int 999]) pl = some (.lst [.int 1, .int 2, .int (1 + rs), .int 999]) := upd_same
        have hMj := hMi.same Sj
        have hNj := hNi.same Sj
        have g3j := Sj _ _ g3i
        refine ⟨pl, rfl, ⟨_, SqL.of gj⟩, for_list (K := K) (a := pl) (xs := [.int 1, .int 2, .int (1 + rs), .int 999]) (fun i σ H' => ∃ v8 v9 v10 v11 v12 v13 : Option V, σ = [some (.ref a), some (.int z), some (.ref aw), some (.ref p8), some (.ref pc), some (.ref L), v6, some (.ref N), v8, v9, v10, v11, v12, v13] ∧ Same (upd Hi pl (.lst [.int 1, .int 2, .int (1 + rs), .int 999])) H')
          ⟨_, _, _, _, _, _, rfl, Same.refl _⟩ (fun i σ H' _ ⟨_, _, _, _, _, _, _, S⟩ => SqL.of (S _ _ gj)) ?_ ?_⟩
        · generalize upd Hi pl (.lst [.int 1, .int 2, .int (1 + rs), .int 999]) = Hj at Sj gj hMj hNj g3j ⊢
          rintro i x σ H1 hx ⟨v8, v9, v10, v11, v12, v13, rfl, S1⟩
          obtain ⟨l, rfl, l1, l2⟩ : ∃ l : Int, x = .int l ∧ 1 ≤ l ∧ l ≤ 999 := by
            have := mem_at hx
            simp only [List.mem_cons, List.not_mem_nil, or_false] at this
            rcases this with rfl | rfl | rfl | rfl
            · exact ⟨1, rfl, by omega, by omega⟩
            · exact ⟨2, rfl, by omega, by omega⟩
            · exact ⟨1 + rs, rfl, by omega, by omega⟩
            · exact ⟨999, rfl, by omega, by omega⟩
          refine ⟨_, rfl, _, rfl, smallN (by show 2 ≤ 1000; decide), fun pt qt => ?_⟩
          have S2 := Same.trans' S1 (Same.new (u := .tup [.ref L, .ref N]) qt)
          have g2 : upd H1 pt (.tup [.ref L, .ref N]) pt = _ := upd_same
          generalize upd H1 pt (.tup [.ref L, .ref N]) = H2 at S2 g2 ⊢
          refine ⟨_, allD ms nts, rfl, all_shw (hMj.same S2) (hNj.same S2) nLs nNs g2, fit.1, fit.2.1, fit.2.2, ?_⟩
          refine ⟨_, rfl, _, rfl, _, rfl, l, L, N, ms, nts, rfl, hMj.same S2, hNj.same S2, hin, n60, nok.pw, fun r hr => (nok.all r hr).lo, fun v H3 S3 R3 => ?_⟩
          have S03 := Same.trans' S2 S3
          refine ⟨_, rfl, _, rfl, _, rfl, l, L, N, ms, nts, rfl, l1, l2, hMj.same S03, hNj.same S03, hin, n60, fun v' H4 S4 R4 => ?_⟩
          have S04 := Same.trans' S03 S4
          have shp : SeqAt.shaped (resD (blF l nts 0 ms)) = true := res_sh fun i a b e => by
            obtain ⟨⟨r1, h1, e1⟩, ⟨r2, h2, e2⟩⟩ := bl_names e
            rw [← e1, ← e2]
            exact ⟨hnm.sub _ (nok.all r1 h1).nm, hnm.sub _ (nok.all r2 h2).nm⟩
          have eqv := SeqAt.eqv_refl _ (SeqAt.canLay_of_shaped shp)
          refine ⟨_, rfl, _, _, res_dp R4, res_dp (R3.same S4), shp, shp, _, rfl, ?_⟩
          rw [eqv]
          refine iteF ?_
          refine ⟨_, rfl, _, rfl, smallN (by show 2 ≤ 1000; decide), fun pt' qt' => ?_⟩
          have S5x := Same.new (u := .tup [.ref L, .ref N]) qt'
          have S5 := Same.trans' S04 S5x
          have g5 : upd H4 pt' (.tup [.ref L, .ref N]) pt' = _ := upd_same
          have R5 := (R3.same S4).same S5x
          generalize upd H4 pt' (.tup [.ref L, .ref N]) = H5 at S5 g5 R5 ⊢
          refine ⟨_, allD ms nts, rfl, all_shw (hMj.same S5) (hNj.same S5) nLs nNs g5, fit.1, fit.2.1, fit.2.2, _, rfl, rfl, _, rfl, ?_⟩
          rw [decide_eq_true (rfl : V.str (allD ms nts).shown = _)]
          refine iteF ?_
          have hM5 := hMj.same S5
          obtain ⟨mp, gm, hmp⟩ := id hM5
          have lmp := paired_len hmp
          show tSeq _ _ _ _ _
          refine at_st (σ' := [some (.ref a), some (.int z), some (.ref aw), some (.ref p8), some (.ref pc), some (.ref L), v6, some (.ref N), some (.int l), some (.str (allD ms nts).shown), some v, v11, v12, v13]) rfl ?_
          refine ⟨_, rfl, L, rfl, ⟨_, SqL.of gm⟩, fun D hD => ?_⟩
          refine lc_it (walk_list (xs := mp.map V.ref)) (fun i H' => Same H5 H' ∧ MomAt H' D ((ms.take i).map turnT)) ⟨Same.new hD, ⟨[], upd_same, .nil⟩⟩ (fun i H' _ q => SqL.of (q.1 _ _ gm)) ?_ ?_
          · rintro i' x _ H6 hi' ⟨S6, mp', gD, hmp'⟩ ⟨rfl, ex⟩
            rw [List.getElem?_map] at ex
            obtain ⟨p, ep, rfl⟩ := Option.map_eq_some_iff.mp ex
            obtain ⟨t, et, ht⟩ := paired_at hmp ep
            have gt := S6 _ _ ht
            have tok := hms t (mem_at et)
            have lt4 : t.length ≤ 4 := by rw [← List.length_map (f := (·.1)), tok.keys]; exact h4
            have nfD : H5 D = none := hD
            refine ⟨rfl, yes_ (iteT ?_)⟩
            refine ⟨_, rfl, p, _, t.map (·.1), rfl, .inl gt, by unfold tabK; rw [List.map_map, List.map_map]; rfl, by rw [List.length_map]; omega, fun ys p7 hperm hsrt n7 => ?_⟩
            have eys := srt_eq hperm hsrt
            subst eys
            have S7x := Same.new (u := .lst ((srt (t.map (·.1))).map V.str)) n7
            have S7 := Same.trans' S6 S7x
            have g7 : upd H6 p7 (.lst ((srt (t.map (·.1))).map V.str)) p7 = _ := upd_same
            have gt7 := S7x _ _ gt
            have gD7 := S7x _ _ gD
            have hmp7 := Paired.mono (fun p r q => S7x _ _ q) hmp'
            generalize upd H6 p7 (.lst ((srt (t.map (·.1))).map V.str)) = H7 at S7 g7 gt7 gD7 hmp7 ⊢
            refine ⟨p7, rfl, ⟨_, SqL.of g7⟩, fun D2 hD2 => ?_⟩
            have ls : (srt (t.map (·.1))).length = t.length := by rw [(srt_perm _).length_eq, List.length_map]
            refine lc_it (walk_list (xs := (srt (t.map (·.1))).map V.str)) (fun j H' => Same H7 H' ∧ PrAt H' D2 (((srt (t.map (·.1))).take j).map fun n => (n, (lk t n).getD 0))) ⟨Same.new hD2, ⟨[], upd_same, .nil⟩⟩ (fun j H' _ q => SqL.of (q.1 _ _ g7)) ?_ ?_
            · rintro j' x _ H8 hj ⟨S8, qs, gD2, hqs⟩ ⟨rfl, ex⟩
              rw [List.getElem?_map] at ex
              obtain ⟨n, en, rfl⟩ := Option.map_eq_some_iff.mp ex
              have hn : n ∈ t.map (·.1) := (srt_perm _).mem_iff.mp (mem_at en)
              obtain ⟨x2, e2⟩ := lk_some hn
              have lqs := paired_len hqs
              rw [List.length_map, List.length_take] at lqs
              refine ⟨rfl, yes_ (iteT ?_)⟩
              refine ⟨_, rfl, _, rfl, _, rfl, p, _, rfl, tab_get (S8 _ _ gt7) e2, smallN (by show 2 ≤ 1000; decide), fun T hT => ?_⟩
              have ST := Same.new (u := .tup [.str n, .int x2]) hT
              have gT : upd H8 T (.tup [.str n, .int x2]) T = _ := upd_same
              have S9 := Same.trans' S8 ST
              have gD9 := ST _ _ gD2
              refine ⟨_, gD9, small1000 (by rw [List.length_map]; omega), same_grow hD2 S9, ⟨qs ++ [T], by rw [upd_same, List.map_append]; rfl, ?_⟩⟩
              rw [get_take en, List.map_append]
              refine paired_snoc' (Paired.mono (fun p r q => ?_) hqs) ?_
              · rw [upd_ne (ne_of q gD2 fun z => by cases z)]
                exact ST _ _ q
              · show upd (upd H8 T (.tup [.str n, .int x2])) D2 _ T = some (.tup [.str n, .int ((lk t n).getD 0)])
                rw [upd_ne (ne_of gT gD9 fun z => by cases z), e2]; exact gT
            · rintro H8 ⟨S8, qs, gD2, hqs⟩
              rw [List.length_map, List.take_length] at hqs
              refine ⟨D2, qs, tabK (turnT t), rfl, SqL.of gD2, pr_dict hqs, fun pn qn => ?_⟩
              have nd : ((turnT t).map (·.1)).Nodup := by
                have e : (turnT t).map (·.1) = srt (t.map (·.1)) := by
                  unfold turnT
                  rw [List.map_map]
                  exact List.map_id _
                rw [e, (srt_perm _).nodup_iff, tok.keys]
                exact hnm.nd
              rw [merge_nil nd]
              have Sn := Same.new (u := .dK (tabK (turnT t))) qn
              have gn : upd H8 pn (.dK (tabK (turnT t))) pn = _ := upd_same
              have S9 := Same.trans' (Same.trans' S7 S8) Sn
              have gD9 := Sn _ _ (S8 _ _ gD7)
              have lmp' := paired_len hmp'
              rw [List.length_map, List.length_take] at lmp'
              refine ⟨_, gD9, small1000 (by rw [List.length_map]; omega), same_grow nfD S9, ⟨mp' ++ [pn], by rw [upd_same, List.map_append]; rfl, ?_⟩⟩
              rw [get_take et, List.map_append]
              refine paired_snoc' (Paired.mono (fun p r q => ?_) hmp7) ?_
              · rw [upd_ne (ne_of q gD7 fun z => by cases z)]
                exact Sn _ _ (S8 _ _ q)
              · show upd (upd H8 pn (.dK (tabK (turnT t)))) D _ pn = some (.dK (tabK (turnT t)))
                rw [upd_ne (ne_of gn gD9 fun z => by cases z)]; exact gn
          · rintro H6 ⟨S6, hD6⟩
            rw [List.length_map, lmp, List.take_length] at hD6
            have S06 := Same.trans' S5 S6
            refine ⟨_, rfl, _, rfl, _, rfl, l, D, N, ms.map turnT, nts, rfl, l1, l2, hD6, hNj.same S06, ?_, n60, fun v2 H7 S7 R7 => ?_⟩
            · intro t ht r hr
              obtain ⟨t0, h0, rfl⟩ := List.mem_map.mp ht
              obtain ⟨x, e⟩ := hin t0 h0 r hr
              exact ⟨x, by rw [turn_lk (by rw [(hms t0 h0).keys]; exact (nok.all r hr).nm)]; exact e⟩
            · rw [← bl_turn hms nok.all] at R7
              refine ⟨_, rfl, _, _, res_dp R7, res_dp ((R5.same S6).same S7), shp, shp, _, rfl, ?_⟩
              rw [eqv]
              refine iteF ⟨_, _, _, _, _, _, rfl, Same.trans' S06 S7⟩
        · rintro σ H1 ⟨v8, v9, v10, v11, v12, v13, rfl, S1⟩
          exact ⟨_, _, _, _, _, _, _, _, _, _, _, _, _, rfl, S1 _ _ g3j⟩
  · rintro σ H4 _
    refine ⟨smallN (by show 0 ≤ 1000; decide), fun p5 q5 _ => ⟨smallN (by show 0 ≤ 1000; decide), fun p6 q6 _ => ?_⟩⟩
    have g5 := Same.new (u := .lst []) q6 _ _ (upd_same (H := H4) (a := p5) (o := .lst []))
    have g6 : upd (upd H4 p5 (.lst [])) p6 (.lst []) p6 = _ := upd_same
    refine ⟨3, p5, p6, [], [], rfl, by decide, by decide, ⟨[], g5, .nil⟩, ⟨[], g6, .nil⟩, (fun t ht => by cases ht), by decide, fun v H5 S5 R5 => ?_⟩
    cases R5
    refine ⟨rfl, _, rfl, iteT ?_⟩
    refine fun pd qd => ⟨upd_same, [(Sum.inr "a", .int 0), (Sum.inr "b", .int 0)], rfl, by show 2 ≤ 15; decide, ?_⟩
    have gd : upd (upd H5 pd (.dK [])) pd (.dK (mergeK [] [(Sum.inr "a", .int 0), (Sum.inr "b", .int 0)])) pd = some (.dK (tabK [("a", 0), ("b", 0)])) := by
      rw [upd_same, ← merge_nil (t := [("a", 0), ("b", 0)]) (by decide +kernel)]; rfl
    generalize upd (upd H5 pd (.dK [])) pd (.dK (mergeK [] [(Sum.inr "a", .int 0), (Sum.inr "b", .int 0)])) = H6 at gd ⊢
    refine ⟨smallN (by show 1 ≤ 1000; decide), fun p7 q7 => ⟨smallN (by show 0 ≤ 1000; decide), fun p8 q8 _ => ?_⟩⟩
    have S7 := Same.new (u := .lst [.ref pd]) q7
    have S8 := Same.new (u := .lst []) q8
    refine ⟨3, p7, p8, [[("a", 0), ("b", 0)]], [], rfl, by decide, by decide, ⟨[pd], S8 _ _ upd_same, .cons (S8 _ _ (S7 _ _ gd)) .nil⟩, ⟨[], upd_same, .nil⟩, (fun t _ r hr => by cases hr), by decide, fun v H9 S9 R9 => ?_⟩
    rw [bl_nil] at R9
    cases R9
    exact ⟨rfl, k H9⟩

def dd_is_integer : He.DefD := ⟨("is_integer", none), "is_integer", "is_integer", defArgs s_is_integer, defBody s_is_integer, defScope s_is_integer, [], []⟩
def dd_check_ticks : He.DefD := ⟨("check_ticks", none), "check_ticks", "check_ticks", defArgs s_check_ticks, defBody s_check_ticks, defScope s_check_ticks, [], []⟩
def dd_both_lead : He.DefD := ⟨("both_lead", none), "both_lead", "both_lead", defArgs s_both_lead, defBody s_both_lead, defScope s_both_lead, [], []⟩
def dd__law_cell_at : He.DefD := ⟨("_law_cell_at", none), "_law_cell_at", "_law_cell_at", defArgs s__law_cell_at, defBody s__law_cell_at, defScope s__law_cell_at, [], []⟩
def dd__law_well : He.DefD := ⟨("_law_well", none), "_law_well", "_law_well", defArgs s__law_well, defBody s__law_well, defScope s__law_well, [], []⟩
def dd__law_draw : He.DefD := ⟨("_law_draw", none), "_law_draw", "_law_draw", defArgs s__law_draw, defBody s__law_draw, defScope s__law_draw, [], []⟩
def dd__law_one : He.DefD := ⟨("_law_one", none), "_law_one", "_law_one", defArgs s__law_one, defBody s__law_one, defScope s__law_one, [], []⟩
def dd__law_due : He.DefD := ⟨("_law_due", none), "_law_due", "_law_due", defArgs s__law_due, defBody s__law_due, defScope s__law_due, [], []⟩
def dd__law_notes : He.DefD := ⟨("_law_notes", none), "_law_notes", "_law_notes", defArgs s__law_notes, defBody s__law_notes, defScope s__law_notes, [], []⟩
def dd_law : He.DefD := ⟨("law", none), "law", "law", defArgs s_law, defBody s_law, defScope s_law, [], []⟩
def fn : List He.DefD := [dd_is_integer, dd_check_ticks, dd_both_lead, dd__law_cell_at, dd__law_well, dd__law_draw, dd__law_one, dd__law_due, dd__law_notes, dd_law]
def fa : List He.Fa := [.glo "is_integer", .glo "check_ticks", .glo "both_lead", .glo "_law_cell_at", .glo "_law_well", .glo "_law_draw", .glo "_law_one", .glo "_law_due", .glo "_law_notes", .glo "law", .glo "PlaneError", .glo "BadValue", .free "len", .free "int", .free "bool", .free "dict", .free "range", .free "isinstance", .free "max", .free "sorted", .free "enumerate", .free "repr", .int "MOST_TICKS" 999]
abbrev R : PySem.W.OpenRow := PySem.W.OpenLaw.row PySem.Challenge.rw_controlplane_k57_who_leads_by_what_was_w
abbrev hk : PySem.W.Hook := He.hookD 6 fa fn
def ob (s : PySem.W.SharedT) : He.AlD := He.obsDG 6 fa fn (HandSHeadRun.getT s)
theorem ob_eq (s : PySem.W.SharedT) : ob s = hk.obs s.abs := He.obsDG_eq (HandSHeadRun.getT_eq s)
theorem run (w : World) : HandSHeadRun.RunEq R (PySem.W.view R.prog [16]) hk ob 2000 ["__name__", "PlaneError", "BadValue", "is_integer", "check_ticks", "both_lead", "_law_cell_at", "_law_well", "_law_draw", "_law_one", "_law_due", "_law_notes", "MOST_TICKS"] w := by
  intro os
  kernel_rfl
theorem facts {P : Program} {w : World} {K : PySem.W.Frag} {h : Heap} {mg : Str → Option Value} {f : Addr} (X : K.In h) (G : h.Ns mainGlobals mg) (hfa : mg ("law" : Str) = some (.ref f)) (c : He.SaysD fa fn K) :
    ∃ fd : FuncData, (∀ (s : Shared) (v : Value), BindsTo s fd ⟨[v], []⟩ [("_law_script", v)]) ∧ ∀ base : Heap, K.In base → base.Ns mainGlobals mg → FnG P w K mg base CX0 5 f fd ["_law_script"] (sp_law K) := by
  have T : Txt K mg := ⟨He.glo_ok X G (c.fact 0 (f := .glo "is_integer") rfl),
    c.def_ 0 (d := dd_is_integer) rfl,
    He.glo_ok X G (c.fact 1 (f := .glo "check_ticks") rfl),
    c.def_ 1 (d := dd_check_ticks) rfl,
    He.glo_ok X G (c.fact 2 (f := .glo "both_lead") rfl),
    c.def_ 2 (d := dd_both_lead) rfl,
    He.glo_ok X G (c.fact 3 (f := .glo "_law_cell_at") rfl),
    c.def_ 3 (d := dd__law_cell_at) rfl,
    He.glo_ok X G (c.fact 4 (f := .glo "_law_well") rfl),
    c.def_ 4 (d := dd__law_well) rfl,
    He.glo_ok X G (c.fact 5 (f := .glo "_law_draw") rfl),
    c.def_ 5 (d := dd__law_draw) rfl,
    He.glo_ok X G (c.fact 6 (f := .glo "_law_one") rfl),
    c.def_ 6 (d := dd__law_one) rfl,
    He.glo_ok X G (c.fact 7 (f := .glo "_law_due") rfl),
    c.def_ 7 (d := dd__law_due) rfl,
    He.glo_ok X G (c.fact 8 (f := .glo "_law_notes") rfl),
    c.def_ 8 (d := dd__law_notes) rfl,
    He.glo_ok X G (c.fact 9 (f := .glo "law") rfl),
    c.def_ 9 (d := dd_law) rfl,
    He.glo_ok X G (c.fact 10 (f := .glo "PlaneError") rfl),
    He.glo_ok X G (c.fact 11 (f := .glo "BadValue") rfl),
    He.free_ok X G (c.fact 12 (f := .free "len") rfl),
    He.free_ok X G (c.fact 13 (f := .free "int") rfl),
    He.free_ok X G (c.fact 14 (f := .free "bool") rfl),
    He.free_ok X G (c.fact 15 (f := .free "dict") rfl),
    He.free_ok X G (c.fact 16 (f := .free "range") rfl),
    He.free_ok X G (c.fact 17 (f := .free "isinstance") rfl),
    He.free_ok X G (c.fact 18 (f := .free "max") rfl),
    He.free_ok X G (c.fact 19 (f := .free "sorted") rfl),
    He.free_ok X G (c.fact 20 (f := .free "enumerate") rfl),
    He.free_ok X G (c.fact 21 (f := .free "repr") rfl),
    He.int_ok X G (c.fact 22 (f := .int "MOST_TICKS" 999) rfl)⟩
  obtain ⟨fd, F⟩ := T.d_law
  have e := hfa.symm.trans T.g_law
  cases e
  have b := FunD.bindsA (ps := ["_law_script"]) F fun _ _ _ _ _ _ us hl => match us, hl with | [_], _ => rfl
  exact ⟨fd, fun s v => b s [v] rfl, fun base _ _ => ok_law T F⟩
end Lk
open PySem PySem.W PySem.Calls PyProof.Rows
theorem PySem.Challenge.cw_controlplane_k57_who_leads_by_what_was_w_holds : PySem.Challenge.rw_controlplane_k57_who_leads_by_what_was_w.Holds := by
  w_on; o_law
  refine HandSHeadRun.head_any (r := OpenLaw.row PySem.Challenge.rw_controlplane_k57_who_leads_by_what_was_w) (q := view (OpenLaw.row PySem.Challenge.rw_controlplane_k57_who_leads_by_what_was_w).prog [16]) (H := Lk.hk) (ob := Lk.ob) (M := 2000) (loose := ["__name__", "PlaneError", "BadValue", "is_integer", "check_ticks", "both_lead", "_law_cell_at", "_law_well", "_law_draw", "_law_one", "_law_due", "_law_notes", "MOST_TICKS"]) (d := HandSHeadRun.topDef (OpenLaw.row PySem.Challenge.rw_controlplane_k57_who_leads_by_what_was_w).prog 16) (kwd := []) Lk.ob_eq
    (by kernel_rfl) (fun s => by kernel_rfl) Lk.run (by kernel_rfl) (by kernel_rfl) (by kernel_rfl) (by rfl) (by first | assumption | decide +kernel) (by decide +kernel) ⟨rfl, rfl, rfl, rfl, rfl, by decide +kernel⟩ ?hw ?hc
  case hw => w_witness2
  case hc =>
    refine Lk.walk_ofG (l := PySem.Challenge.rw_controlplane_k57_who_leads_by_what_was_w) (n := 63) (k := 5) (x := "_law_script") (CX := L2.CX0) rfl (by decide) (by kernel_rfl) ⟨rfl, by decide, by decide⟩ ?F (fun _ _ _ _ z => z)
    intro w mg fa h Y G hmg0
    obtain ⟨K, KX, c⟩ := Y
    have hmg : mg ("law" : PySem.Str) = some (.ref fa) := by
      have e : (HandSHeadRun.topDef (OpenLaw.row PySem.Challenge.rw_controlplane_k57_who_leads_by_what_was_w).prog 16).name = ("law" : PySem.Str) := by kernel_rfl
      rw [← e]
      exact hmg0
    obtain ⟨fd, hb, hF⟩ := Lk.facts (P := (PySem.Challenge.rw_controlplane_k57_who_leads_by_what_was_w).prog) (w := w) KX G hmg c
    exact ⟨K, fd, Lk.sp_law K, KX, hb, fun H a ns hl hS => ⟨a, ns, rfl, hS, hl, fun _ => rfl⟩, hF⟩

