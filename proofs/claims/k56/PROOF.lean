import PyProof.Rows.All
import Wide.All
import OpenK.AllK
import Wide.FinOn
import KE.KStateDown
import Lean
import HandS.ForMost
import HandS.Flow
import HandS.Style
import HandS.Wide
import HandS.IsInst
import HandS.TupAny
import HandS.More
import HandS.WordsExc
import HandS.Defaults
import HandS.Head0
import HandS.Head1
import HandS.Head2
import HandS.HeadEnd
import HandS.HeadHook1
import HandS.HeadHook2
import PySem.Challenge.RW_controlplane_k56_clocks_of_two_leaders
set_option Elab.async false
set_option linter.all false
set_option maxRecDepth 100000
set_option maxHeartbeats 4000000
namespace Lk
open PySem PySem.Spec PyProof.Rows L2
def topS (i : Nat) : Stmt := PySem.Challenge.pw_controlplane_k56_clocks_of_two_leaders.main.body.getD i (.Pass ⟨0, 0, 0, 0⟩)
abbrev s_is_integer : Stmt := topS 4
abbrev N_is_integer : List Str := ["value"]
abbrev ps_is_integer : List Str := ["value"]
theorem sc_is_integer : FnScope N_is_integer ps_is_integer (defScope s_is_integer) := ⟨rfl, rfl, rfl, by decide +kernel, rfl, by decide +kernel, by decide +kernel⟩
abbrev s_check_number : Stmt := topS 5
abbrev N_check_number : List Str := ["value", "why", "high"]
abbrev ps_check_number : List Str := ["value", "why", "high"]
theorem sc_check_number : FnScope N_check_number ps_check_number (defScope s_check_number) := ⟨rfl, rfl, rfl, by decide +kernel, rfl, by decide +kernel, by decide +kernel⟩
abbrev s_check_ticks : Stmt := topS 8
abbrev N_check_ticks : List Str := ["value", "why"]
abbrev ps_check_ticks : List Str := ["value", "why"]
theorem sc_check_ticks : FnScope N_check_ticks ps_check_ticks (defScope s_check_ticks) := ⟨rfl, rfl, rfl, by decide +kernel, rfl, by decide +kernel, by decide +kernel⟩
abbrev s_check_bounds : Stmt := topS 9
abbrev N_check_bounds : List Str := ["length", "wait", "s"]
abbrev ps_check_bounds : List Str := ["length", "wait", "s"]
theorem sc_check_bounds : FnScope N_check_bounds ps_check_bounds (defScope s_check_bounds) := ⟨rfl, rfl, rfl, by decide +kernel, rfl, by decide +kernel, by decide +kernel⟩
abbrev s_clash : Stmt := topS 10
abbrev N_clash : List Str := ["length", "wait", "s"]
abbrev ps_clash : List Str := ["length", "wait", "s"]
theorem sc_clash : FnScope N_clash ps_clash (defScope s_clash) := ⟨rfl, rfl, rfl, by decide +kernel, rfl, by decide +kernel, by decide +kernel⟩
abbrev s_shows_clash : Stmt := topS 11
abbrev N_shows_clash : List Str := ["length", "wait", "s", "run", "a0", "b0", "a1", "b1", "one"]
abbrev ps_shows_clash : List Str := ["length", "wait", "s", "run"]
theorem sc_shows_clash : FnScope N_shows_clash ps_shows_clash (defScope s_shows_clash) := ⟨rfl, rfl, rfl, by decide +kernel, rfl, by decide +kernel, by decide +kernel⟩
abbrev s__law_cell_at : Stmt := topS 13
abbrev N__law_cell_at : List Str := ["_law_script", "_law_index"]
abbrev ps__law_cell_at : List Str := ["_law_script", "_law_index"]
theorem sc__law_cell_at : FnScope N__law_cell_at ps__law_cell_at (defScope s__law_cell_at) := ⟨rfl, rfl, rfl, by decide +kernel, rfl, by decide +kernel, by decide +kernel⟩
abbrev s__law_well : Stmt := topS 14
abbrev N__law_well : List Str := ["_law_cell"]
abbrev ps__law_well : List Str := ["_law_cell"]
theorem sc__law_well : FnScope N__law_well ps__law_well (defScope s__law_well) := ⟨rfl, rfl, rfl, by decide +kernel, rfl, by decide +kernel, by decide +kernel⟩
abbrev s__law_draw : Stmt := topS 15
abbrev N__law_draw : List Str := ["_law_well_here", "_law_many", "_law_found", "_law_salt", "_law_base", "_law_number"]
abbrev ps__law_draw : List Str := ["_law_well_here", "_law_many"]
theorem sc__law_draw : FnScope N__law_draw ps__law_draw (defScope s__law_draw) := ⟨rfl, rfl, rfl, by decide +kernel, rfl, by decide +kernel, by decide +kernel⟩
abbrev s__law_one : Stmt := topS 16
abbrev N__law_one : List Str := ["_law_well_here", "_law_some"]
abbrev ps__law_one : List Str := ["_law_well_here", "_law_some"]
theorem sc__law_one : FnScope N__law_one ps__law_one (defScope s__law_one) := ⟨rfl, rfl, rfl, by decide +kernel, rfl, by decide +kernel, by decide +kernel⟩
abbrev s__law_is_clock : Stmt := topS 17
abbrev N__law_is_clock : List Str := ["_law_value"]
abbrev ps__law_is_clock : List Str := ["_law_value"]
theorem sc__law_is_clock : FnScope N__law_is_clock ps__law_is_clock (defScope s__law_is_clock) := ⟨rfl, rfl, rfl, by decide +kernel, rfl, by decide +kernel, by decide +kernel⟩
abbrev s__law_shows : Stmt := topS 18
abbrev N__law_shows : List Str := ["_law_span", "_law_pause", "_law_differ", "_law_four", "_law_one_here"]
abbrev ps__law_shows : List Str := ["_law_span", "_law_pause", "_law_differ", "_law_four"]
theorem sc__law_shows : FnScope N__law_shows ps__law_shows (defScope s__law_shows) := ⟨rfl, rfl, rfl, by decide +kernel, rfl, by decide +kernel, by decide +kernel⟩
abbrev s__law_bent : Stmt := topS 19
abbrev N__law_bent : List Str := ["_law_well_here", "_law_four", "_law_some", "_law_turn", "_law_at", "_law_number", "_law_new"]
abbrev ps__law_bent : List Str := ["_law_well_here", "_law_four"]
theorem sc__law_bent : FnScope N__law_bent ps__law_bent (defScope s__law_bent) := ⟨rfl, rfl, rfl, by decide +kernel, rfl, by decide +kernel, by decide +kernel⟩
abbrev s__law_exists : Stmt := topS 20
abbrev N__law_exists : List Str := ["_law_span", "_law_pause", "_law_differ", "_law_late", "_law_other"]
abbrev ps__law_exists : List Str := ["_law_span", "_law_pause", "_law_differ"]
theorem sc__law_exists : FnScope N__law_exists ps__law_exists (defScope s__law_exists) := ⟨rfl, rfl, rfl, by decide +kernel, rfl, by decide +kernel, by decide +kernel⟩
abbrev s__law_right : Stmt := topS 21
abbrev N__law_right : List Str := ["_law_well_here", "_law_span", "_law_pause", "_law_differ", "_law_four", "_law_latest", "_law_some", "_law_turn"]
abbrev ps__law_right : List Str := ["_law_well_here", "_law_span", "_law_pause", "_law_differ"]
theorem sc__law_right : FnScope N__law_right ps__law_right (defScope s__law_right) := ⟨rfl, rfl, rfl, by decide +kernel, rfl, by decide +kernel, by decide +kernel⟩
abbrev s_law : Stmt := topS 22
abbrev N_law : List Str := ["_law_script", "_law_cell", "_law_well_here", "_law_turn", "_law_span", "_law_differ", "_law_near", "_law_pause"]
abbrev ps_law : List Str := ["_law_script"]
theorem sc_law : FnScope N_law ps_law (defScope s_law) := ⟨rfl, rfl, rfl, by decide +kernel, rfl, by decide +kernel, by decide +kernel⟩
abbrev FnP (K : PySem.W.Frag) (x : Str) (st : Stmt) (dvs : List V) (fd : FuncData) : Prop := FunD K x x (defArgs st) (defBody st) (defScope st) dvs [] (He.ga K x) fd
structure Txt (K : PySem.W.Frag) (mg : Str → Option Value) : Prop where
  g_is_integer : mg "is_integer" = some (.ref (He.ga K "is_integer"))
  d_is_integer : ∃ fd, FnP K "is_integer" s_is_integer [] fd
  g_check_number : mg "check_number" = some (.ref (He.ga K "check_number"))
  d_check_number : ∃ fd, FnP K "check_number" s_check_number [.non] fd
  g_check_ticks : mg "check_ticks" = some (.ref (He.ga K "check_ticks"))
  d_check_ticks : ∃ fd, FnP K "check_ticks" s_check_ticks [] fd
  g_check_bounds : mg "check_bounds" = some (.ref (He.ga K "check_bounds"))
  d_check_bounds : ∃ fd, FnP K "check_bounds" s_check_bounds [] fd
  g_clash : mg "clash" = some (.ref (He.ga K "clash"))
  d_clash : ∃ fd, FnP K "clash" s_clash [] fd
  g_shows_clash : mg "shows_clash" = some (.ref (He.ga K "shows_clash"))
  d_shows_clash : ∃ fd, FnP K "shows_clash" s_shows_clash [] fd
  g__law_cell_at : mg "_law_cell_at" = some (.ref (He.ga K "_law_cell_at"))
  d__law_cell_at : ∃ fd, FnP K "_law_cell_at" s__law_cell_at [] fd
  g__law_well : mg "_law_well" = some (.ref (He.ga K "_law_well"))
  d__law_well : ∃ fd, FnP K "_law_well" s__law_well [] fd
  g__law_draw : mg "_law_draw" = some (.ref (He.ga K "_law_draw"))
  d__law_draw : ∃ fd, FnP K "_law_draw" s__law_draw [] fd
  g__law_one : mg "_law_one" = some (.ref (He.ga K "_law_one"))
  d__law_one : ∃ fd, FnP K "_law_one" s__law_one [] fd
  g__law_is_clock : mg "_law_is_clock" = some (.ref (He.ga K "_law_is_clock"))
  d__law_is_clock : ∃ fd, FnP K "_law_is_clock" s__law_is_clock [] fd
  g__law_shows : mg "_law_shows" = some (.ref (He.ga K "_law_shows"))
  d__law_shows : ∃ fd, FnP K "_law_shows" s__law_shows [] fd
  g__law_bent : mg "_law_bent" = some (.ref (He.ga K "_law_bent"))
  d__law_bent : ∃ fd, FnP K "_law_bent" s__law_bent [] fd
  g__law_exists : mg "_law_exists" = some (.ref (He.ga K "_law_exists"))
  d__law_exists : ∃ fd, FnP K "_law_exists" s__law_exists [] fd
  g__law_right : mg "_law_right" = some (.ref (He.ga K "_law_right"))
  d__law_right : ∃ fd, FnP K "_law_right" s__law_right [] fd
  g_law : mg "law" = some (.ref (He.ga K "law"))
  d_law : ∃ fd, FnP K "law" s_law [] fd
  g_PlaneError : mg "PlaneError" = some (.ref (He.ga K "PlaneError"))
  g_BadValue : mg "BadValue" = some (.ref (He.ga K "BadValue"))
  n_len : mg "len" = none
  n_int : mg "int" = none
  n_bool : mg "bool" = none
  n_list : mg "list" = none
  n_tuple : mg "tuple" = none
  n_range : mg "range" = none
  n_isinstance : mg "isinstance" = none
  n_max : mg "max" = none
  n_min : mg "min" = none
  n_abs : mg "abs" = none
  n_all : mg "all" = none
  c_MOST_TICKS : ∃ t, mg "MOST_TICKS" = some (.int 999 t)
theorem bi_is_integer {K : PySem.W.Frag} {fd : FuncData} (F : FnP K "is_integer" s_is_integer [] fd) : Binds K fd ps_is_integer [] := F.bindsN (fun _ _ _ _ _ _ us hl => match us, hl with | [_], _ => rfl)
theorem bi_check_number {K : PySem.W.Frag} {fd : FuncData} (F : FnP K "check_number" s_check_number [.non] fd) : ∃ ds, Vals ([.non] : List V) ds ∧ Binds K fd ps_check_number ds := FunD.binds1 F 2 0 (by simp) (by rfl) fun _ _ _ _ _ _ _ us its h1 h2 => match us, its, h1, h2 with | [_, _], [_], _, _ => ⟨_, rfl, rfl⟩
theorem bi_check_ticks {K : PySem.W.Frag} {fd : FuncData} (F : FnP K "check_ticks" s_check_ticks [] fd) : Binds K fd ps_check_ticks [] := F.bindsN (fun _ _ _ _ _ _ us hl => match us, hl with | [_, _], _ => rfl)
theorem bi_check_bounds {K : PySem.W.Frag} {fd : FuncData} (F : FnP K "check_bounds" s_check_bounds [] fd) : Binds K fd ps_check_bounds [] := F.bindsN (fun _ _ _ _ _ _ us hl => match us, hl with | [_, _, _], _ => rfl)
theorem bi_clash {K : PySem.W.Frag} {fd : FuncData} (F : FnP K "clash" s_clash [] fd) : Binds K fd ps_clash [] := F.bindsN (fun _ _ _ _ _ _ us hl => match us, hl with | [_, _, _], _ => rfl)
theorem bi_shows_clash {K : PySem.W.Frag} {fd : FuncData} (F : FnP K "shows_clash" s_shows_clash [] fd) : Binds K fd ps_shows_clash [] := F.bindsN (fun _ _ _ _ _ _ us hl => match us, hl with | [_, _, _, _], _ => rfl)
theorem bi__law_cell_at {K : PySem.W.Frag} {fd : FuncData} (F : FnP K "_law_cell_at" s__law_cell_at [] fd) : Binds K fd ps__law_cell_at [] := F.bindsN (fun _ _ _ _ _ _ us hl => match us, hl with | [_, _], _ => rfl)
theorem bi__law_well {K : PySem.W.Frag} {fd : FuncData} (F : FnP K "_law_well" s__law_well [] fd) : Binds K fd ps__law_well [] := F.bindsN (fun _ _ _ _ _ _ us hl => match us, hl with | [_], _ => rfl)
theorem bi__law_draw {K : PySem.W.Frag} {fd : FuncData} (F : FnP K "_law_draw" s__law_draw [] fd) : Binds K fd ps__law_draw [] := F.bindsN (fun _ _ _ _ _ _ us hl => match us, hl with | [_, _], _ => rfl)
theorem bi__law_one {K : PySem.W.Frag} {fd : FuncData} (F : FnP K "_law_one" s__law_one [] fd) : Binds K fd ps__law_one [] := F.bindsN (fun _ _ _ _ _ _ us hl => match us, hl with | [_, _], _ => rfl)
theorem bi__law_is_clock {K : PySem.W.Frag} {fd : FuncData} (F : FnP K "_law_is_clock" s__law_is_clock [] fd) : Binds K fd ps__law_is_clock [] := F.bindsN (fun _ _ _ _ _ _ us hl => match us, hl with | [_], _ => rfl)
theorem bi__law_shows {K : PySem.W.Frag} {fd : FuncData} (F : FnP K "_law_shows" s__law_shows [] fd) : Binds K fd ps__law_shows [] := F.bindsN (fun _ _ _ _ _ _ us hl => match us, hl with | [_, _, _, _], _ => rfl)
theorem bi__law_bent {K : PySem.W.Frag} {fd : FuncData} (F : FnP K "_law_bent" s__law_bent [] fd) : Binds K fd ps__law_bent [] := F.bindsN (fun _ _ _ _ _ _ us hl => match us, hl with | [_, _], _ => rfl)
theorem bi__law_exists {K : PySem.W.Frag} {fd : FuncData} (F : FnP K "_law_exists" s__law_exists [] fd) : Binds K fd ps__law_exists [] := F.bindsN (fun _ _ _ _ _ _ us hl => match us, hl with | [_, _, _], _ => rfl)
theorem bi__law_right {K : PySem.W.Frag} {fd : FuncData} (F : FnP K "_law_right" s__law_right [] fd) : Binds K fd ps__law_right [] := F.bindsN (fun _ _ _ _ _ _ us hl => match us, hl with | [_, _, _, _], _ => rfl)
theorem bi_law {K : PySem.W.Frag} {fd : FuncData} (F : FnP K "law" s_law [] fd) : Binds K fd ps_law [] := F.bindsN (fun _ _ _ _ _ _ us hl => match us, hl with | [_], _ => rfl)

/-! ### the heap: what a def with a source of draws leaves -/
/-- all that was tracked, but what stands at a, is as it was -/
def Keep (a : Addr) (H H' : Hp) : Prop := ∀ b o, b ≠ a → H b = some o → H' b = some o
theorem Keep.refl (a : Addr) (H : Hp) : Keep a H H := fun _ _ _ h => h
theorem Keep.trans {a : Addr} {H H1 H2 : Hp} (x : Keep a H H1) (y : Keep a H1 H2) : Keep a H H2 := fun b o n h => y b o n (x b o n h)
theorem Keep.of {a : Addr} {H H1 : Hp} (x : Same H H1) : Keep a H H1 := fun b o _ h => x b o h
theorem Keep.at_ {a : Addr} {H : Hp} {u : HO} : Keep a H (upd H a u) := fun b o n h => by rw [upd_ne n]; exact h
theorem Same.new {H : Hp} {p : Addr} {u : HO} (n : H p = none) : Same H (upd H p u) := fun b o h => by rw [upd_ne (ne_of_none h n)]; exact h
theorem Keep.new {a : Addr} {H : Hp} {p : Addr} {u : HO} (n : H p = none) : Keep a H (upd H p u) := Keep.of (Same.new n)
theorem Keep.seqL {K : PySem.W.Frag} {a b : Addr} {H H1 : Hp} {xs : List V} (x : Keep a H H1) (n : b ≠ a) (h : SqL K H b xs) : SqL K H1 b xs := by
  rcases h with (h | ⟨o, h⟩) | h
  · exact .inl (.inl (x _ _ n h))
  · exact .inl (.inr ⟨o, x _ _ n h⟩)
  · exact .inr h
theorem Keep.seqT {K : PySem.W.Frag} {a b : Addr} {H H1 : Hp} {xs : List V} (x : Keep a H H1) (n : b ≠ a) (h : SqT K H b xs) : SqT K H1 b xs := by
  rcases h with (h | ⟨o, h⟩) | h
  · exact .inl (.inl (x _ _ n h))
  · exact .inl (.inr ⟨o, x _ _ n h⟩)
  · exact .inr h
/-- a flat value: None, a bool, an int, a text -/
def flat : V → Prop
  | .non => True
  | .bl _ => True
  | .int _ => True
  | .str _ => True
  | _ => False
def tyNm : V → Value
  | .non => .type "NoneType"
  | .bl _ => .type "bool"
  | .int _ => .type "int"
  | _ => .type "str"
theorem flat_ty {K : PySem.W.Frag} {H : Hp} {x : V} (h : flat x) : TyX K H x (tyNm x) := by
  cases x with
  | non => exact .base .non
  | bl b => exact .base (.bl b)
  | int i => exact .base (.int i)
  | str z => exact .base (.str z)
  | byt _ => exact h.elim
  | flt _ => exact h.elim
  | ref _ => exact h.elim
  | ty _ => exact h.elim
theorem small3 : (3 : Nat) ≤ sizeLine := by rw [sizeLine_eq]; decide
theorem smallN {n : Nat} (h : n ≤ 1000) : n ≤ sizeLine := Nat.le_of_lt (small1000 h)
theorem yes_ {σ : L2.St} {H : Hp} {Q : Bool → Hp → Prop} (h : Q true H) : tYes σ H Q := h
theorem get_take {α : Type} {xs : List α} {i : Nat} {x : α} (h : xs[i]? = some x) : xs.take (i + 1) = xs.take i ++ [x] := by
  rw [List.take_succ, h]; rfl
theorem mem_at {α : Type} {xs : List α} {i : Nat} {x : α} (h : xs[i]? = some x) : x ∈ xs := List.mem_of_getElem? h
theorem lt_at {α : Type} {xs : List α} {i : Nat} {x : α} (h : xs[i]? = some x) : i < xs.length := (List.getElem?_eq_some_iff.mp h).1
/-! ### flat values as data -/
def dOf : V → PyData
  | .bl b => .bool b
  | .int i => .int i
  | .str z => .str z
  | _ => .none
theorem dp_flat {K : PySem.W.Frag} {H : Hp} {x : V} (h : flat x) : Dp K H x (dOf x) := by
  cases x with
  | non => exact .non
  | bl b => exact .bl b
  | int i => exact .int i
  | str z => exact .str z
  | byt _ => exact h.elim
  | flt _ => exact h.elim
  | ref _ => exact h.elim
  | ty _ => exact h.elim
theorem dps_flat {K : PySem.W.Frag} {H : Hp} : ∀ {xs : List V}, (∀ x ∈ xs, flat x) → DpAll K H xs (xs.map dOf)
  | [], _ => .nil
  | x :: xs, h => .cons (dp_flat (h x (List.mem_cons_self ..))) (dps_flat fun y hy => h y (List.mem_cons_of_mem _ hy))
/-- a text of signs that there are -/
def okS : V → Prop
  | .str z => PyData.strOk z = true
  | _ => True
theorem lay_flat {x : V} (h : okS x) : (dOf x).canLay0 = true := by
  cases x with
  | str z => exact (show PyData.canLay0 (.str z) = true by simpa [PyData.canLay0, okS] using h)
  | _ => simp [dOf, PyData.canLay0]
theorem lays_flat : ∀ {xs : List V}, (∀ x ∈ xs, okS x) → PyData.canLayAll0 (xs.map dOf) = true
  | [], _ => by simp [PyData.canLayAll0]
  | x :: xs, h => by simp [PyData.canLayAll0, lay_flat (h x (List.mem_cons_self ..)), lays_flat (xs := xs) fun y hy => h y (List.mem_cons_of_mem _ hy)]
theorem dep_flat (x : V) : (dOf x).depth = 0 := by cases x <;> simp [dOf, PyData.depth]
theorem deps_flat : ∀ xs : List V, PyData.depthAll (xs.map dOf) = 0
  | [] => by simp [PyData.depthAll]
  | x :: xs => by simp [PyData.depthAll, dep_flat x, deps_flat xs]
theorem sh_flat {x : V} (h : okS x) : SeqAt.shaped (dOf x) = true := by simp [SeqAt.shaped, lay_flat h, dep_flat x]
theorem sh_list {xs : List V} (h : ∀ x ∈ xs, okS x) : SeqAt.shaped (.list (xs.map dOf)) = true := by simp [SeqAt.shaped, PyData.canLay0, PyData.depth, lays_flat h, deps_flat xs]
theorem sh_tup {xs : List V} (h : ∀ x ∈ xs, okS x) : SeqAt.shaped (.tuple (xs.map dOf)) = true := by simp [SeqAt.shaped, PyData.canLay0, PyData.depth, lays_flat h, deps_flat xs]
theorem eqv_nil (xs : List V) : PyData.eqv (.list (xs.map dOf)) (.list []) = xs.isEmpty := by
  cases xs <;> simp [PyData.eqv, PyData.eqvAll]

/-! ### the source of draws: [digits, a number, a count] -/
def WellO (u : HO) (n : Nat) : Prop := ∃ x y : Int, u = .lst [.int x, .int y, .int (n : Int)]
def WellAt (H : Hp) (a : Addr) (n : Nat) : Prop := ∃ u, H a = some u ∧ WellO u n
def sp__law_cell_at (K : PySem.W.Frag) : Sp := fun vs H Q _ => ∃ (a : Addr) (ns : List Int), vs = [.ref a, .int 0] ∧ SqL K H a (ns.map V.int) ∧ ∀ i : Int, Q (.int i) H
theorem ok__law_cell_at {P : Program} {w : World} {K : PySem.W.Frag} {mg : Str → Option Value} {base : Heap} {fd : FuncData} (T : Txt K mg) (F : FnP K "_law_cell_at" s__law_cell_at [] fd) : FnOk P w K mg base CX0 1 (He.ga K "_law_cell_at") fd ps__law_cell_at (sp__law_cell_at K) := by
  refine F.ok sc__law_cell_at (fun vs H Q E h => ?len) (fun cdv A outer s H vs Q E hr h => ?body)
  case len => obtain ⟨a, ns, rfl, hS, k⟩ := h; rfl
  case body =>
  obtain ⟨a, ns, rfl, hS, k⟩ := h
  have hu := hu_of hr
  refine ⟨_, PSs.nox (pss_cons (ps_if (pt_cmpR op_lt (pv 1) (pe_callB call_len_seq (by rfl) T.n_len (by decide +kernel) (pa_cons (pv 0) pa_nil)) (nomark _)) (pss_one (ps_ret (pe_ix ix_list (pv 0) (pv 1) (fun _ _ => rfl)))) pss_nil)
    (pss_one (ps_ret pe_int))), ?_⟩
  refine ⟨_, rfl, _, rfl, a, _, rfl, .inl hS, _, _, rfl, rfl, _, rfl, ?_⟩
  refine ite2 (fun hlt => ?_) (fun _ => k 0)
  cases ns with
  | nil => simp at hlt
  | cons i r => exact ⟨_, rfl, _, rfl, a, _, 0, .int i, rfl, rfl, hS, atI_nat (j := 0) rfl, k i⟩
def sp__law_well (K : PySem.W.Frag) : Sp := fun vs H Q _ => ∃ (i : Int), vs = [.int i] ∧ ∀ (a : Addr) (u : HO), H a = none → WellO u 0 → Q (.ref a) (upd H a u)
theorem ok__law_well {P : Program} {w : World} {K : PySem.W.Frag} {mg : Str → Option Value} {base : Heap} {fd : FuncData} (T : Txt K mg) (F : FnP K "_law_well" s__law_well [] fd) : FnOk P w K mg base CX0 1 (He.ga K "_law_well") fd ps__law_well (sp__law_well K) := by
  refine F.ok sc__law_well (fun vs H Q E h => ?len) (fun cdv A outer s H vs Q E hr h => ?body)
  case len => obtain ⟨i, rfl, k⟩ := h; rfl
  case body =>
  obtain ⟨i, rfl, k⟩ := h
  have hu := hu_of hr
  refine ⟨_, PSs.nox (pss_one (ps_ret (pe_lst (pa_cons (pe_op op_mul (pv 0) (pe_callTy call_int1 (by rfl) T.n_int (by decide +kernel) (pa_cons (pe_cmpR op_ge (pv 0) (pe_op op_pow pe_int pe_int) (nomark _)) pa_nil))) (pa_cons (pv 0) (pa_cons pe_int pa_nil)))))), ?_⟩
  refine ⟨_, rfl, _, rfl, _, _, rfl, rfl, ⟨by decide, by decide, by decide⟩, _, _, rfl, rfl, .inr ⟨_, rfl, _, _, rfl, rfl, .inr ?_, _, rfl, smallN (by show 3 ≤ 1000; decide), fun p hp => k p _ hp ⟨_, _, rfl⟩⟩⟩
  split <;> constructor <;> decide
/-- a number from 0 to m - 1; the source goes on -/
def sp__law_draw (K : PySem.W.Frag) : Sp := fun vs H Q _ => ∃ (a : Addr) (n : Nat) (m : Int), vs = [.ref a, .int m] ∧ WellAt H a n ∧ n < 1000000 ∧ 0 < m ∧ m ≤ 1000000000 ∧
  ∀ (r : Int) (u : HO) (n' : Nat), 0 ≤ r → r < m → n' ≤ n + 1 → WellO u n' → Q (.int r) (upd H a u)
theorem natAbs_lt64 {z : Int} (h1 : -(2 ^ 40) < z) (h2 : z < 2 ^ 40) : z.natAbs < 2 ^ 64 := by omega
theorem mod_lt' (z : Int) {m : Int} (h : 0 < m) : 0 ≤ z % m ∧ z % m < m := ⟨Int.emod_nonneg _ (by omega), Int.emod_lt_of_pos _ h⟩
theorem wdiv {i j : Int} (h : 0 < j) (h2 : j ≤ 2 ^ 32) : CDivW i j := wide_div (b := 40) h (by omega) (by decide) (by decide)
theorem ok__law_draw {P : Program} {w : World} {K : PySem.W.Frag} {mg : Str → Option Value} {base : Heap} {fd : FuncData} (T : Txt K mg) (F : FnP K "_law_draw" s__law_draw [] fd) : FnOk P w K mg base CX0 1 (He.ga K "_law_draw") fd ps__law_draw (sp__law_draw K) := by
  refine F.ok sc__law_draw (fun vs H Q E h => ?len) (fun cdv A outer s H vs Q E hr h => ?body)
  case len => obtain ⟨a, n, m, rfl, ⟨u, hu0, x, y, rfl⟩, hn, hm, hm2, k⟩ := h; rfl
  case body =>
  obtain ⟨a, n, m, rfl, ⟨u, hu0, x, y, rfl⟩, hn, hm, hm2, k⟩ := h
  have hu := hu_of hr
  refine ⟨_, PSs.nox (pss_cons (ps_if (pt_cmpR op_gt (pe_ix ix_list (pv 0) pe_int (fun _ _ => rfl)) pe_int (nomark _)) (pss_cons (ps_set (i := 2) sc__law_draw.nd rfl (Or.inl rfl) (pe_op op_mod (pe_callTy call_int1 (by rfl) T.n_int (by decide +kernel) (pa_cons (pe_ix ix_list (pv 0) pe_int (fun _ _ => rfl)) pa_nil)) (pv 1)))
      (pss_cons (ps_asg (pe_op op_fdivW (pe_ix ix_list (pv 0) pe_int (fun _ _ => rfl)) (pv 1)) (pg_sub (pv 0) pe_int set_list))
      (pss_one (ps_ret (pv 2))))) pss_nil)
    (pss_cons (ps_asg (pe_op op_add (pe_ix ix_list (pv 0) pe_int (fun _ _ => rfl)) pe_int) (pg_sub (pv 0) pe_int set_list))
    (pss_cons (ps_set (i := 3) sc__law_draw.nd rfl (Or.inl rfl) (pe_op op_mod (pe_callTy call_int1 (by rfl) T.n_int (by decide +kernel) (pa_cons (pe_op op_fdivW (pe_ix ix_list (pv 0) pe_int (fun _ _ => rfl)) pe_int) pa_nil)) pe_int))
    (pss_cons (ps_set (i := 4) sc__law_draw.nd rfl (Or.inl rfl) (pe_op op_add (pe_op op_add (pe_op op_add (pe_op op_mod (pe_callTy call_int1 (by rfl) T.n_int (by decide +kernel) (pa_cons (pe_ix ix_list (pv 0) pe_int (fun _ _ => rfl)) pa_nil)) pe_int) (pe_op op_mul pe_int (pe_ix ix_list (pv 0) pe_int (fun _ _ => rfl)))) (pv 3)) pe_int))
    (pss_cons (ps_set (i := 5) sc__law_draw.nd rfl (Or.inl rfl) (pe_op op_mod (pe_callTy call_int1 (by rfl) T.n_int (by decide +kernel) (pa_cons (pe_op op_pow (pv 4) pe_int) pa_nil)) pe_int))
    (pss_cons (ps_set (i := 5) sc__law_draw.nd rfl (Or.inl rfl) (pe_op op_mod (pe_callTy call_int1 (by rfl) T.n_int (by decide +kernel) (pa_cons (pe_op op_mul (pv 5) (pe_op op_add (pe_op op_add (pe_op op_fdivW (pv 5) pe_int) pe_int) (pe_ix ix_list (pv 0) pe_int (fun _ _ => rfl)))) pa_nil)) pe_int))
    (pss_one (ps_ret (pe_op op_mod (pe_callTy call_int1 (by rfl) T.n_int (by decide +kernel) (pa_cons (pe_op op_mod (pe_callTy call_int1 (by rfl) T.n_int (by decide +kernel) (pa_cons (pe_op op_mul (pv 5) (pe_op op_add (pe_op op_fdivW (pv 5) pe_int) pe_int)) pa_nil)) pe_int) pa_nil)) (pv 1)))))))))), ?_⟩
  have hS : SqL K H a [.int x, .int y, .int (n : Int)] := SqL.of hu0
  refine ⟨_, rfl, a, _, 0, _, rfl, rfl, hS, rfl, _, _, rfl, rfl, _, rfl, ?_⟩
  refine ite2 (fun hx => ?_) (fun hx => ?_)
  · refine ⟨_, rfl, a, _, 0, _, rfl, rfl, hS, rfl, .inl ⟨_, rfl, _, rfl, _, _, rfl, rfl, hm, ?_⟩⟩
    refine ⟨_, rfl, a, _, 0, _, rfl, rfl, hS, rfl, _, rfl, _, _, rfl, rfl, wdiv hm (by omega), _, rfl, a, _, _, 0, rfl, rfl, hu0, rfl, _, rfl, ?_⟩
    exact k _ _ n (mod_lt' x hm).1 (mod_lt' x hm).2 (Nat.le_succ _) ⟨_, _, rfl⟩
  · refine ⟨_, rfl, a, _, 2, _, rfl, rfl, hS, rfl, _, _, rfl, rfl, _, rfl, a, _, _, 2, rfl, rfl, hu0, rfl, ?_⟩
    have hu1 : upd H a (.lst ([.int x, .int y, .int (n : Int)].set 2 (.int ((n : Int) + 1)))) a = some (.lst [.int x, .int y, .int ((n : Int) + 1)]) := upd_same
    have hS1 : SqL K (upd H a (.lst ([.int x, .int y, .int (n : Int)].set 2 (.int ((n : Int) + 1))))) a [.int x, .int y, .int ((n : Int) + 1)] := SqL.of hu1
    refine ⟨_, rfl, a, _, 1, _, rfl, rfl, hS1, rfl, _, _, rfl, rfl, wdiv (by decide) (by decide), .inl ⟨_, rfl, _, _, rfl, rfl, (by show (0 : Int) < 65521; decide), ?_⟩⟩
    refine ⟨_, rfl, a, _, 1, _, rfl, rfl, hS1, rfl, .inl ⟨_, rfl, _, _, rfl, rfl, (by show (0 : Int) < 2147483629; decide), ?_⟩⟩
    have b1 := mod_lt' y (m := 2147483629) (by decide)
    have b2 := mod_lt' (y / 2147483629) (m := 65521) (by decide)
    generalize y % 2147483629 = e1 at b1 ⊢
    generalize y / 2147483629 % 65521 = e2 at b2 ⊢
    refine ⟨_, rfl, a, _, 2, _, rfl, rfl, hS1, rfl, _, _, rfl, rfl, .inl ⟨by decide, by decide⟩, _, _, rfl, rfl, _, rfl, _, _, rfl, rfl, _, _, rfl, rfl, ?_⟩
    refine ⟨_, rfl, _, _, rfl, rfl, ⟨by decide, by decide, natAbs_lt64 (by omega) (by omega)⟩, .inl ⟨_, rfl, _, _, rfl, rfl, (by show (0 : Int) < 2147483647; decide), ?_⟩⟩
    have b3 := mod_lt' ((e1 + 7919 * ((n : Int) + 1) + e2 + 1) ^ (5 : Int).toNat) (m := 2147483647) (by decide)
    generalize (e1 + 7919 * ((n : Int) + 1) + e2 + 1) ^ (5 : Int).toNat % 2147483647 = e3 at b3 ⊢
    refine ⟨_, rfl, _, rfl, _, _, rfl, rfl, wdiv (by decide) (by decide), _, _, rfl, rfl, _, rfl, a, _, 2, _, rfl, rfl, hS1, rfl, _, _, rfl, rfl, _, _, rfl, rfl, .inl ⟨by omega, by omega⟩, .inl ⟨_, rfl, _, _, rfl, rfl, (by show (0 : Int) < 2147483629; decide), ?_⟩⟩
    have b4 := mod_lt' (e3 * (e3 / 1009 + 69621 + ((n : Int) + 1))) (m := 2147483629) (by decide)
    generalize e3 * (e3 / 1009 + 69621 + ((n : Int) + 1)) % 2147483629 = e4 at b4 ⊢
    refine ⟨_, rfl, _, rfl, _, _, rfl, rfl, wdiv (by decide) (by decide), _, _, rfl, rfl, _, _, rfl, rfl, .inl ⟨by omega, by omega⟩, .inl ⟨_, rfl, _, _, rfl, rfl, (by show (0 : Int) < 2147483399; decide), .inl ⟨_, rfl, _, rfl, _, _, rfl, rfl, hm, ?_⟩⟩⟩
    exact k _ _ (n + 1) (mod_lt' _ hm).1 (mod_lt' _ hm).2 (Nat.le_refl _) ⟨_, _, rfl⟩

/-! ### the program -/
def isI : V → Bool
  | .int _ => true
  | _ => false
def isIB : V → Bool
  | .int _ => true
  | .bl _ => true
  | _ => false
def isB : V → Bool
  | .bl _ => true
  | _ => false
theorem kit_int {K : PySem.W.Frag} {x : V} (h : flat x) : PySem.W.kitOne K (tyNm x) (.type "int") = some (isIB x) := by
  cases x with
  | non => exact kit_ty (show kitB "NoneType" "int" = some false by decide +kernel)
  | bl b => exact kit_ty (show kitB "bool" "int" = some true by decide +kernel)
  | int i => exact kit_ty (show kitB "int" "int" = some true by decide +kernel)
  | str z => exact kit_ty (show kitB "str" "int" = some false by decide +kernel)
  | byt _ => exact h.elim
  | flt _ => exact h.elim
  | ref _ => exact h.elim
  | ty _ => exact h.elim
theorem kit_bool {K : PySem.W.Frag} {x : V} (h : flat x) : PySem.W.kitOne K (tyNm x) (.type "bool") = some (isB x) := by
  cases x with
  | non => exact kit_ty (show kitB "NoneType" "bool" = some false by decide +kernel)
  | bl b => exact kit_ty (show kitB "bool" "bool" = some true by decide +kernel)
  | int i => exact kit_ty (show kitB "int" "bool" = some false by decide +kernel)
  | str z => exact kit_ty (show kitB "str" "bool" = some false by decide +kernel)
  | byt _ => exact h.elim
  | flt _ => exact h.elim
  | ref _ => exact h.elim
  | ty _ => exact h.elim
def sp_is_integer (K : PySem.W.Frag) : Sp := fun vs H Q _ => ∃ (x : V), vs = [x] ∧ flat x ∧ Q (.bl (isI x)) H
theorem ok_is_integer {P : Program} {w : World} {K : PySem.W.Frag} {mg : Str → Option Value} {base : Heap} {fd : FuncData} (T : Txt K mg) (F : FnP K "is_integer" s_is_integer [] fd) : FnOk P w K mg base CX0 1 (He.ga K "is_integer") fd ps_is_integer (sp_is_integer K) := by
  refine F.ok sc_is_integer (fun vs H Q E h => ?len) (fun cdv A outer s H vs Q E hr h => ?body)
  case len => obtain ⟨x, rfl, hf, k⟩ := h; rfl
  case body =>
  obtain ⟨x, rfl, hf, k⟩ := h
  have hu := hu_of hr
  refine ⟨_, PSs.nox (pss_one (ps_ret (pe_and (pe_callB call_isi (by rfl) T.n_isinstance (by decide +kernel) (pa_cons (pv 0) (pa_cons (pe_bltn (v := .ty "int") rfl T.n_int (by decide +kernel) rfl) pa_nil))) (pe_one (pe_not (pe_callB call_isi (by rfl) T.n_isinstance (by decide +kernel) (pa_cons (pv 0) (pa_cons (pe_bltn (v := .ty "bool") rfl T.n_bool (by decide +kernel) rfl) pa_nil)))))))), ?_⟩
  refine ⟨_, rfl, x, .ty "int", _, _, _, rfl, .ty "int", flat_ty hf, kit_int hf, _, rfl, ?_⟩
  cases x with
  | non => exact k
  | str z => exact k
  | bl b => exact ⟨_, rfl, .bl b, .ty "bool", _, _, _, rfl, .ty "bool", flat_ty hf, kit_bool hf, _, rfl, k⟩
  | int i => exact ⟨_, rfl, .int i, .ty "bool", _, _, _, rfl, .ty "bool", flat_ty hf, kit_bool hf, _, rfl, k⟩
  | byt _ => exact hf.elim
  | flt _ => exact hf.elim
  | ref _ => exact hf.elim
  | ty _ => exact hf.elim
def sp_check_number (K : PySem.W.Frag) : Sp := fun vs H Q _ => ∃ (s : Int) (x : Str), vs = [.int s, .str x, .non] ∧ 0 ≤ s ∧ Q .non H
theorem ok_check_number {P : Program} {w : World} {K : PySem.W.Frag} {mg : Str → Option Value} {base : Heap} {fd : FuncData} (T : Txt K mg) (F : FnP K "check_number" s_check_number [.non] fd) : FnOk P w K mg base CX0 2 (He.ga K "check_number") fd ps_check_number (sp_check_number K) := by
  obtain ⟨fd_is_integer, F_is_integer⟩ := T.d_is_integer
  have G_is_integer := ok_is_integer (P := P) (w := w) (base := base) T F_is_integer
  have k_is_integer := F_is_integer.kp
  have b_is_integer := bi_is_integer F_is_integer
  refine F.ok sc_check_number (fun vs H Q E h => ?len) (fun cdv A outer s H vs Q E hr h => ?body)
  case len => obtain ⟨s, x, rfl, hs, k⟩ := h; rfl
  case body =>
  obtain ⟨s, x, rfl, hs, k⟩ := h
  have hu := hu_of hr
  refine ⟨_, PSs.nox (pss_one (ps_if (PW.pt (pw_or (pt_not (pt_val (pe_call G_is_integer (hr.mono (by decide)) rfl T.g_is_integer k_is_integer b_is_integer .nil pass0 (pa_cons (pv 0) pa_nil)))) (pw_or (pt_cmpR op_lt (pv 0) pe_int (nomark _)) (pw_or1 (PW.pt (pw_and (pt_cmpR op_notN (pv 2) pe_non (nomark _)) (pw_and1 (pt_cmpR op_gt (pv 0) (pv 2) (nomark _))))))))) (pss_one ps_never) pss_nil)), ?_⟩
  refine ⟨_, rfl, .int s, rfl, True.intro, true, rfl, ?_⟩
  refine iteF ⟨_, rfl, _, _, rfl, rfl, _, rfl, ?_⟩
  rw [decide_eq_false (by omega)]
  refine iteF ⟨_, rfl, rfl, _, rfl, ?_⟩
  exact iteF (iteF k)
def sp_check_ticks (K : PySem.W.Frag) : Sp := fun vs H Q _ => ∃ (s : Int) (x : Str), vs = [.int s, .str x] ∧ 1 ≤ s ∧ s ≤ 999 ∧ Q .non H
theorem ok_check_ticks {P : Program} {w : World} {K : PySem.W.Frag} {mg : Str → Option Value} {base : Heap} {fd : FuncData} (T : Txt K mg) (F : FnP K "check_ticks" s_check_ticks [] fd) : FnOk P w K mg base CX0 2 (He.ga K "check_ticks") fd ps_check_ticks (sp_check_ticks K) := by
  obtain ⟨fd_is_integer, F_is_integer⟩ := T.d_is_integer
  have G_is_integer := ok_is_integer (P := P) (w := w) (base := base) T F_is_integer
  have k_is_integer := F_is_integer.kp
  have b_is_integer := bi_is_integer F_is_integer
  obtain ⟨t_MOST_TICKS, h_MOST_TICKS⟩ := T.c_MOST_TICKS
  refine F.ok sc_check_ticks (fun vs H Q E h => ?len) (fun cdv A outer s H vs Q E hr h => ?body)
  case len => obtain ⟨s, x, rfl, h1, h2, k⟩ := h; rfl
  case body =>
  obtain ⟨s, x, rfl, h1, h2, k⟩ := h
  have hu := hu_of hr
  refine ⟨_, PSs.nox (pss_one (ps_if (PW.pt (pw_or (pt_not (pt_val (pe_call G_is_integer (hr.mono (by decide)) rfl T.g_is_integer k_is_integer b_is_integer .nil pass0 (pa_cons (pv 0) pa_nil)))) (pw_or1 (pt_not (pt_chain op_le op_le pe_int (pv 0) (pe_glob (v := .int 999) rfl h_MOST_TICKS ⟨_, rfl⟩)))))) (pss_one ps_never) pss_nil)), ?_⟩
  refine ⟨_, rfl, .int s, rfl, True.intro, true, rfl, ?_⟩
  refine iteF ⟨_, rfl, _, _, rfl, rfl, _, rfl, ?_⟩
  rw [decide_eq_true h1]
  refine iteT ⟨_, _, rfl, rfl, _, rfl, ?_⟩
  rw [decide_eq_true h2]
  exact iteF k
def sp_check_bounds (K : PySem.W.Frag) : Sp := fun vs H Q _ => ∃ (l t s : Int), vs = [.int l, .int t, .int s] ∧ 1 ≤ l ∧ l ≤ 999 ∧ 1 ≤ t ∧ t ≤ 999 ∧ 0 ≤ s ∧ Q .non H
theorem ok_check_bounds {P : Program} {w : World} {K : PySem.W.Frag} {mg : Str → Option Value} {base : Heap} {fd : FuncData} (T : Txt K mg) (F : FnP K "check_bounds" s_check_bounds [] fd) : FnOk P w K mg base CX0 3 (He.ga K "check_bounds") fd ps_check_bounds (sp_check_bounds K) := by
  obtain ⟨fd_check_ticks, F_check_ticks⟩ := T.d_check_ticks
  have G_check_ticks := ok_check_ticks (P := P) (w := w) (base := base) T F_check_ticks
  have k_check_ticks := F_check_ticks.kp
  have b_check_ticks := bi_check_ticks F_check_ticks
  obtain ⟨fd_check_number, F_check_number⟩ := T.d_check_number
  have G_check_number := ok_check_number (P := P) (w := w) (base := base) T F_check_number
  have k_check_number := F_check_number.kp
  obtain ⟨ds_check_number, hd_check_number, b_check_number⟩ := bi_check_number F_check_number
  refine F.ok sc_check_bounds (fun vs H Q E h => ?len) (fun cdv A outer s H vs Q E hr h => ?body)
  case len => obtain ⟨l, t, s, rfl, h1, h2, h3, h4, h5, k⟩ := h; rfl
  case body =>
  obtain ⟨l, t, s, rfl, h1, h2, h3, h4, h5, k⟩ := h
  have hu := hu_of hr
  refine ⟨_, PSs.nox (pss_cons (ps_expr (pe_call G_check_ticks (hr.mono (by decide)) rfl T.g_check_ticks k_check_ticks b_check_ticks .nil pass0 (pa_cons (pv 0) (pa_cons pe_str pa_nil))))
    (pss_cons (ps_expr (pe_call G_check_ticks (hr.mono (by decide)) rfl T.g_check_ticks k_check_ticks b_check_ticks .nil pass0 (pa_cons (pv 1) (pa_cons pe_str pa_nil))))
    (pss_one (ps_expr (pe_call G_check_number (hr.mono (by decide)) rfl T.g_check_number k_check_number b_check_number hd_check_number pass0 (pa_cons (pv 2) (pa_cons pe_str pa_nil))))))), ?_⟩
  exact ⟨_, rfl, l, _, rfl, h1, h2, _, rfl, t, _, rfl, h3, h4, _, rfl, s, _, rfl, h5, k⟩
/-- the run that clash returns -/
def four (t s : Int) : List V := [.int 0, .int 0, .int (if t - s > 0 then t - s else 0), .int t]
/-- what clash returns -/
def FourV (l t s : Int) (H : Hp) (v : V) : Prop := (t < l + s ∧ ∃ p, v = .ref p ∧ H p = some (.tup (four t s))) ∨ (¬ t < l + s ∧ v = .non)
def sp_clash (K : PySem.W.Frag) : Sp := fun vs H Q _ => ∃ (l t s : Int), vs = [.int l, .int t, .int s] ∧ 1 ≤ l ∧ l ≤ 999 ∧ 1 ≤ t ∧ t ≤ 999 ∧ 0 ≤ s ∧
  ∀ v H', Same H H' → FourV l t s H' v → Q v H'
theorem ok_clash {P : Program} {w : World} {K : PySem.W.Frag} {mg : Str → Option Value} {base : Heap} {fd : FuncData} (T : Txt K mg) (F : FnP K "clash" s_clash [] fd) : FnOk P w K mg base CX0 4 (He.ga K "clash") fd ps_clash (sp_clash K) := by
  obtain ⟨fd_check_bounds, F_check_bounds⟩ := T.d_check_bounds
  have G_check_bounds := ok_check_bounds (P := P) (w := w) (base := base) T F_check_bounds
  have k_check_bounds := F_check_bounds.kp
  have b_check_bounds := bi_check_bounds F_check_bounds
  refine F.ok sc_clash (fun vs H Q E h => ?len) (fun cdv A outer s H vs Q E hr h => ?body)
  case len => obtain ⟨l, t, s, rfl, h1, h2, h3, h4, h5, k⟩ := h; rfl
  case body =>
  obtain ⟨l, t, s, rfl, h1, h2, h3, h4, h5, k⟩ := h
  have hu := hu_of hr
  refine ⟨_, PSs.nox (pss_cons (ps_expr (pe_call G_check_bounds (hr.mono (by decide)) rfl T.g_check_bounds k_check_bounds b_check_bounds .nil pass0 (pa_cons (pv 0) (pa_cons (pv 1) (pa_cons (pv 2) pa_nil)))))
    (pss_one (ps_ret (pe_ifExp (pt_cmpR op_lt (pv 1) (pe_op op_add (pv 0) (pv 2)) (nomark _)) (pe_tup (pa_cons pe_int (pa_cons pe_int (pa_cons (pe_callB (call_max2 rfl) (by rfl) T.n_max (by decide +kernel) (pa_cons pe_int (pa_cons (pe_op op_sub (pv 1) (pv 2)) pa_nil))) (pa_cons (pv 1) pa_nil))))) pe_non)))), ?_⟩
  refine ⟨_, rfl, _, rfl, _, rfl, l, t, s, rfl, h1, h2, h3, h4, h5, ?_⟩
  refine ⟨_, rfl, _, rfl, _, rfl, _, _, rfl, rfl, _, _, rfl, rfl, _, rfl, ?_⟩
  refine ite2 (fun h => ?_) (fun h => ?_)
  · have h := of_decide_eq_true h
    refine ⟨_, rfl, _, rfl, _, _, rfl, rfl, _, _, rfl, _, rfl, smallN (by show 4 ≤ 1000; decide), fun p hp => ?_⟩
    exact k _ _ (Same.new hp) (.inl ⟨h, p, rfl, upd_same⟩)
  · exact k _ _ (Same.refl H) (.inr ⟨fun z => h (decide_eq_true z), rfl⟩)
/-! ### what a run shows -/
def showB (l t s : Int) : List V → Bool
  | [.int a0, .int b0, .int a1, .int b1] => decide (0 ≤ a0 ∧ 0 ≤ b0 ∧ 0 ≤ a1 ∧ 0 ≤ b1) && decide (-s ≤ a0 - b0 ∧ a0 - b0 ≤ s ∧ -s ≤ a1 - b1 ∧ a1 - b1 ≤ s ∧ a0 ≤ a1 ∧ b0 ≤ b1 ∧ a1 < a0 + l ∧ a0 + t ≤ b1)
  | _ => false
/-- what may be asked about: a tuple (of flat values, if it has four), or no tuple; b: what is due -/
inductive Run (w : Addr) (l t s : Int) (H : Hp) : V → Bool → Prop
  | tup {a : Addr} {xs : List V} (h : H a = some (.tup xs)) (f : xs.length = 4 → ∀ x ∈ xs, flat x ∧ okS x) : Run w l t s H (.ref a) (showB l t s xs)
  | flt {v : V} (h : flat v) : Run w l t s H v false
  | lst {a : Addr} {xs : List V} (h : H a = some (.lst xs)) (hl : a ≠ w) : Run w l t s H (.ref a) false
  | dK {a : Addr} {kvs : List (Key × V)} (h : H a = some (.dK kvs)) : Run w l t s H (.ref a) false
theorem Run.two {K : PySem.W.Frag} {w : Addr} {l t s : Int} {H : Hp} {v : V} {b : Bool} (h : Run w l t s H v b) :
    (∃ a xs, v = .ref a ∧ b = showB l t s xs ∧ H a = some (.tup xs) ∧ (xs.length = 4 → ∀ x ∈ xs, flat x ∧ okS x)) ∨ (b = false ∧ ∃ u, TyX K H v u ∧ PySem.W.kitOne K u (.type "tuple") = some false) := by
  cases h with
  | tup h f => exact .inl ⟨_, _, rfl, rfl, h, f⟩
  | lst h hl => exact .inr ⟨rfl, _, .base (.lst h), kit_ty (show kitB "list" "tuple" = some false by decide +kernel)⟩
  | dK h => exact .inr ⟨rfl, _, .base (.dK h), kit_ty (show kitB "dict" "tuple" = some false by decide +kernel)⟩
  | flt h =>
    refine .inr ⟨rfl, _, flat_ty h, ?_⟩
    cases v with
    | non => exact kit_ty (show kitB "NoneType" "tuple" = some false by decide +kernel)
    | bl b => exact kit_ty (show kitB "bool" "tuple" = some false by decide +kernel)
    | int i => exact kit_ty (show kitB "int" "tuple" = some false by decide +kernel)
    | str z => exact kit_ty (show kitB "str" "tuple" = some false by decide +kernel)
    | byt _ => exact h.elim
    | flt _ => exact h.elim
    | ref _ => exact h.elim
    | ty _ => exact h.elim

/-- an int that is not negative -/
def okI : V → Bool
  | .int i => decide (0 ≤ i)
  | _ => false
theorem all4 {xs : List V} (hl : xs.length = 4) (h : (xs.map okI).all id = true) : ∃ a b c d : Int, xs = [.int a, .int b, .int c, .int d] ∧ 0 ≤ a ∧ 0 ≤ b ∧ 0 ≤ c ∧ 0 ≤ d := by
  match xs, hl with
  | [x, y, z, w], _ =>
    simp only [List.map_cons, List.map_nil, List.all_cons, List.all_nil, Bool.and_true, Bool.and_eq_true, id] at h
    obtain ⟨h1, h2, h3, h4⟩ := h
    have q : ∀ v : V, okI v = true → ∃ i : Int, v = .int i ∧ 0 ≤ i := fun v e => by
      cases v with
      | int i => exact ⟨i, rfl, of_decide_eq_true e⟩
      | _ => cases e
    obtain ⟨a, rfl, ha⟩ := q x h1
    obtain ⟨b, rfl, hb⟩ := q y h2
    obtain ⟨c, rfl, hc⟩ := q z h3
    obtain ⟨d, rfl, hd⟩ := q w h4
    exact ⟨a, b, c, d, rfl, ha, hb, hc, hd⟩
theorem notall {l t s : Int} {xs : List V} (h : (xs.map okI).all id = false) : showB l t s xs = false := by
  unfold showB
  split
  · rename_i a0 b0 a1 b1
    simp only [List.map_cons, List.map_nil, List.all_cons, List.all_nil, Bool.and_true, id, okI] at h
    rw [Bool.and_eq_false_iff]
    refine .inl (decide_eq_false fun ⟨h1, h2, h3, h4⟩ => ?_)
    rw [decide_eq_true h1, decide_eq_true h2, decide_eq_true h3, decide_eq_true h4] at h
    cases h
  · rfl
theorem show4 {l t s : Int} {xs : List V} (h : xs.length ≠ 4) : showB l t s xs = false := by
  unfold showB
  split
  · exact absurd rfl h
  · rfl
/-- both ask alike -/
def spShow (K : PySem.W.Frag) : Sp := fun vs H Q _ => ∃ (wa : Addr) (l t s : Int) (v : V) (b : Bool), vs = [.int l, .int t, .int s, v] ∧ 1 ≤ l ∧ l ≤ 999 ∧ 1 ≤ t ∧ t ≤ 999 ∧ 0 ≤ s ∧ Run wa l t s H v b ∧ ∀ H', Same H H' → Q (.bl b) H'
abbrev sp_shows_clash (K : PySem.W.Frag) : Sp := spShow K
theorem ok_shows_clash {P : Program} {w : World} {K : PySem.W.Frag} {mg : Str → Option Value} {base : Heap} {fd : FuncData} (T : Txt K mg) (F : FnP K "shows_clash" s_shows_clash [] fd) : FnOk P w K mg base CX0 4 (He.ga K "shows_clash") fd ps_shows_clash (sp_shows_clash K) := by
  obtain ⟨fd_check_bounds, F_check_bounds⟩ := T.d_check_bounds
  have G_check_bounds := ok_check_bounds (P := P) (w := w) (base := base) T F_check_bounds
  have k_check_bounds := F_check_bounds.kp
  have b_check_bounds := bi_check_bounds F_check_bounds
  obtain ⟨fd_is_integer, F_is_integer⟩ := T.d_is_integer
  have G_is_integer := ok_is_integer (P := P) (w := w) (base := base) T F_is_integer
  have k_is_integer := F_is_integer.kp
  have b_is_integer := bi_is_integer F_is_integer
  refine F.ok sc_shows_clash (fun vs H Q E h => ?len) (fun cdv A outer s H vs Q E hr h => ?body)
  case len => obtain ⟨wa, l, t, s, v, b, rfl, h1, h2, h3, h4, h5, hR, k⟩ := h; rfl
  case body =>
  obtain ⟨wa, l, t, s, v, b, rfl, h1, h2, h3, h4, h5, hR, k⟩ := h
  have hu := hu_of hr
  refine ⟨_, PSs.nox (pss_cons (ps_expr (pe_call G_check_bounds (hr.mono (by decide)) rfl T.g_check_bounds k_check_bounds b_check_bounds .nil pass0 (pa_cons (pv 0) (pa_cons (pv 1) (pa_cons (pv 2) pa_nil)))))
    (pss_cons (ps_if (PW.pt (pw_or (pt_not (pt_val (pe_callB call_isi (by rfl) T.n_isinstance (by decide +kernel) (pa_cons (pv 3) (pa_cons (pe_bltn (v := .ty "tuple") rfl T.n_tuple (by decide +kernel) rfl) pa_nil))))) (pw_or (pt_cmpR op_ne (pe_callB call_len_seq (by rfl) T.n_len (by decide +kernel) (pa_cons (pv 3) pa_nil)) pe_int (nomark _)) (pw_or1 (pt_not (pt_val (pe_callB (cr_all rfl) (by rfl) T.n_all (by decide +kernel) (pa_cons (pe_lc (own := [("one", 8)]) rfl sc_shows_clash.nd (pi_tup (pv 3)) (blkOk_by (own := [("one", 8)]) (N := N_shows_clash) (sc := defScope s_shows_clash) (by decide +kernel)) (fun _ _ _ _ _ => (pg_name (i := 8) sc_shows_clash.nd rfl (Or.inl rfl))) (fun _ _ _ _ _ => pts_nil) (fun _ _ _ _ _ => (pe_and (pe_call G_is_integer (hr.mono (by decide)) rfl T.g_is_integer k_is_integer b_is_integer .nil pass0 (pa_cons (pv 8) pa_nil)) (pe_one (pe_cmpR op_ge (pv 8) pe_int (nomark _)))))) pa_nil)))))))) (pss_one (ps_ret pe_bl)) pss_nil)
    (pss_cons (ps_asg (pv 3) (pg_tup rfl (pgs_cons (pg_name (i := 4) sc_shows_clash.nd rfl (Or.inl rfl)) (pgs_cons (pg_name (i := 5) sc_shows_clash.nd rfl (Or.inl rfl)) (pgs_cons (pg_name (i := 6) sc_shows_clash.nd rfl (Or.inl rfl)) (pgs_cons (pg_name (i := 7) sc_shows_clash.nd rfl (Or.inl rfl)) pgs_nil))))))
    (pss_cons (ps_if (PW.pt (pw_or (pt_cmpR op_gt (pe_callB call_abs (by rfl) T.n_abs (by decide +kernel) (pa_cons (pe_op op_sub (pv 4) (pv 5)) pa_nil)) (pv 2) (nomark _)) (pw_or (pt_cmpR op_gt (pe_callB call_abs (by rfl) T.n_abs (by decide +kernel) (pa_cons (pe_op op_sub (pv 6) (pv 7)) pa_nil)) (pv 2) (nomark _)) (pw_or (pt_cmpR op_gt (pv 4) (pv 6) (nomark _)) (pw_or1 (pt_cmpR op_gt (pv 5) (pv 7) (nomark _))))))) (pss_one (ps_ret pe_bl)) pss_nil)
    (pss_one (ps_ret (pe_and (pe_cmpR op_lt (pv 6) (pe_op op_add (pv 4) (pv 0)) (nomark _)) (pe_one (pe_cmpR op_ge (pv 7) (pe_op op_add (pv 4) (pv 1)) (nomark _)))))))))), ?_⟩
  refine ⟨_, rfl, _, rfl, _, rfl, l, t, s, rfl, h1, h2, h3, h4, h5, ?_⟩
  rcases hR.two (K := K) with ⟨a, xs, rfl, rfl, hx, hf⟩ | ⟨rfl, u, hT, he⟩
  rotate_left
  · refine ⟨_, rfl, v, .ty "tuple", _, _, _, rfl, .ty "tuple", hT, he, _, rfl, ?_⟩
    exact iteT (iteT (k H (Same.refl H)))
  ·
    refine ⟨_, rfl, _, .ty "tuple", _, _, _, rfl, .ty "tuple", .base (.tup hx), kit_ty (show kitB "tuple" "tuple" = some true by decide +kernel), _, rfl, ?_⟩
    refine iteF ⟨_, rfl, a, xs, rfl, .inr (SqT.of hx), rfl, _, rfl, ?_⟩
    by_cases hl : xs.length = 4
    · have e4 : (!decide (V.int (xs.length : Int) = V.int 4)) = false := by rw [hl]; rfl
      rw [e4]
      refine iteF ⟨_, rfl, a, rfl, ⟨_, SqT.of hx⟩, fun D hD => ?_⟩
      refine lc_tup (K := K) (a := a) (xs := xs) (fun i H' => Same H H' ∧ H' D = some (.lst ((xs.take i).map fun x => V.bl (okI x)))) ⟨Same.new hD, upd_same⟩ (fun i H' _ ⟨sm, _⟩ => .inl (.inl (sm _ _ hx))) ?_ ?_
      · rintro i x H' hi ⟨sm, hD'⟩
        have fx := (hf hl x (mem_at hi)).1
        have nx : D ≠ a := fun z => by rw [z, hx] at hD; cases hD
        have fin : ∀ y : V, y = V.bl (okI x) → ∃ acc, H' D = some (.lst acc) ∧ acc.length < sizeLine ∧ (Same H (upd H' D (.lst (acc ++ [y]))) ∧ upd H' D (.lst (acc ++ [y])) D = some (.lst ((xs.take (i + 1)).map fun x => V.bl (okI x)))) := fun y ey => by
          subst ey
          refine ⟨_, hD', small1000 (by rw [List.length_map, List.length_take]; have := lt_at hi; omega), fun b o hb => ?_, ?_⟩
          · rw [upd_ne (ne_of_none hb hD)]; exact sm b o hb
          · rw [upd_same, get_take hi, List.map_append]; rfl
        refine ⟨rfl, yes_ ?_⟩
        refine iteT ?_
        refine ⟨_, rfl, x, rfl, fx, _, rfl, ?_⟩
        cases x with
        | int z => exact iteT ⟨_, rfl, _, _, rfl, rfl, fin _ rfl⟩
        | _ => exact iteF (fin _ rfl)
      · rintro H' ⟨sm, hD'⟩
        rw [List.take_length] at hD'
        have hD2 : H' D = some (.lst ((xs.map okI).map V.bl)) := by rw [hD', List.map_map]; rfl
        refine ⟨D, xs.map okI, rfl, SqL.of hD2, _, rfl, ?_⟩
        cases ea : (xs.map okI).all id with
        | false =>
          refine iteT ?_
          have := k H' sm
          rw [notall ea] at this
          exact this
        | true =>
          refine iteF ?_
          obtain ⟨a0, b0, a1, b1, rfl, p0, p1, p2, p3⟩ := all4 hl ea
          refine ⟨_, rfl, a, _, rfl, SqT.of (sm _ _ hx), rfl, _, _, rfl, _, _, rfl, _, _, rfl, _, _, rfl, rfl, ?_⟩
          have kk := k H' sm
          have e1 : (decide (0 ≤ a0 ∧ 0 ≤ b0 ∧ 0 ≤ a1 ∧ 0 ≤ b1)) = true := decide_eq_true ⟨p0, p1, p2, p3⟩
          simp only [showB, e1, Bool.true_and] at kk
          refine ⟨_, rfl, _, rfl, _, _, rfl, rfl, _, rfl, _, rfl, _, _, rfl, rfl, _, rfl, ?_⟩
          have bad : (¬ (-s ≤ a0 - b0 ∧ a0 - b0 ≤ s ∧ -s ≤ a1 - b1 ∧ a1 - b1 ≤ s ∧ a0 ≤ a1 ∧ b0 ≤ b1 ∧ a1 < a0 + l ∧ a0 + t ≤ b1)) → Q (.bl false) H' := fun z => by
            rw [decide_eq_false z] at kk
            exact kk
          refine ite2 (fun c1 => ?_) (fun c1 => ?_)
          · exact iteT (bad (by have := of_decide_eq_true c1; omega))
          have c1 := of_decide_eq_false (Bool.eq_false_iff.mpr c1)
          refine ⟨_, rfl, _, rfl, _, _, rfl, rfl, _, rfl, _, rfl, _, _, rfl, rfl, _, rfl, ?_⟩
          refine ite2 (fun c2 => ?_) (fun c2 => ?_)
          · exact iteT (bad (by have := of_decide_eq_true c2; omega))
          have c2 := of_decide_eq_false (Bool.eq_false_iff.mpr c2)
          refine ⟨_, rfl, _, rfl, _, _, rfl, rfl, _, rfl, ?_⟩
          refine ite2 (fun c3 => ?_) (fun c3 => ?_)
          · exact iteT (bad (by have := of_decide_eq_true c3; omega))
          have c3 := of_decide_eq_false (Bool.eq_false_iff.mpr c3)
          refine ⟨_, rfl, _, rfl, _, _, rfl, rfl, _, rfl, ?_⟩
          refine ite2 (fun c4 => ?_) (fun c4 => ?_)
          · exact bad (by have := of_decide_eq_true c4; omega)
          have c4 := of_decide_eq_false (Bool.eq_false_iff.mpr c4)
          refine ⟨_, rfl, _, rfl, _, rfl, _, _, rfl, rfl, _, _, rfl, rfl, _, rfl, ?_⟩
          refine ite2 (fun c5 => ?_) (fun c5 => ?_)
          · have c5 := of_decide_eq_true c5
            refine ⟨_, rfl, _, rfl, _, rfl, _, _, rfl, rfl, _, _, rfl, rfl, ?_⟩
            have e : decide (-s ≤ a0 - b0 ∧ a0 - b0 ≤ s ∧ -s ≤ a1 - b1 ∧ a1 - b1 ≤ s ∧ a0 ≤ a1 ∧ b0 ≤ b1 ∧ a1 < a0 + l ∧ a0 + t ≤ b1) = decide (a0 + t ≤ b1) := by
              rw [decide_eq_decide]
              constructor
              · intro z; omega
              · intro z; omega
            rw [e] at kk
            exact kk
          · have c5 := of_decide_eq_false (Bool.eq_false_iff.mpr c5)
            exact bad (by omega)
    · have e4 : (!decide (V.int (xs.length : Int) = V.int 4)) = true := by
        have : ¬ V.int (xs.length : Int) = V.int 4 := fun z => hl (by injection z with z; omega)
        rw [decide_eq_false this]; rfl
      rw [e4]
      refine iteT (iteT ?_)
      have := k H (Same.refl H)
      rw [show4 hl] at this
      exact this

def sp__law_is_clock (K : PySem.W.Frag) : Sp := fun vs H Q _ => ∃ (x : V), vs = [x] ∧ flat x ∧ Q (.bl (okI x)) H
theorem ok__law_is_clock {P : Program} {w : World} {K : PySem.W.Frag} {mg : Str → Option Value} {base : Heap} {fd : FuncData} (T : Txt K mg) (F : FnP K "_law_is_clock" s__law_is_clock [] fd) : FnOk P w K mg base CX0 1 (He.ga K "_law_is_clock") fd ps__law_is_clock (sp__law_is_clock K) := by
  refine F.ok sc__law_is_clock (fun vs H Q E h => ?len) (fun cdv A outer s H vs Q E hr h => ?body)
  case len => obtain ⟨x, rfl, hf, k⟩ := h; rfl
  case body =>
  obtain ⟨x, rfl, hf, k⟩ := h
  have hu := hu_of hr
  refine ⟨_, PSs.nox (pss_one (ps_ret (pe_and (pe_callB call_isi (by rfl) T.n_isinstance (by decide +kernel) (pa_cons (pv 0) (pa_cons (pe_bltn (v := .ty "int") rfl T.n_int (by decide +kernel) rfl) pa_nil))) (pe_and (pe_not (pe_callB call_isi (by rfl) T.n_isinstance (by decide +kernel) (pa_cons (pv 0) (pa_cons (pe_bltn (v := .ty "bool") rfl T.n_bool (by decide +kernel) rfl) pa_nil)))) (pe_one (pe_cmpR op_ge (pv 0) pe_int (nomark _))))))), ?_⟩
  refine ⟨_, rfl, x, .ty "int", _, _, _, rfl, .ty "int", flat_ty hf, kit_int hf, _, rfl, ?_⟩
  cases x with
  | non => exact iteF k
  | str z => exact iteF k
  | bl b => exact iteT ⟨_, rfl, .bl b, .ty "bool", _, _, _, rfl, .ty "bool", flat_ty hf, kit_bool hf, _, rfl, _, rfl, iteF k⟩
  | int i => exact iteT ⟨_, rfl, .int i, .ty "bool", _, _, _, rfl, .ty "bool", flat_ty hf, kit_bool hf, _, rfl, _, rfl, iteT ⟨_, rfl, _, _, rfl, rfl, k⟩⟩
  | byt _ => exact hf.elim
  | flt _ => exact hf.elim
  | ref _ => exact hf.elim
  | ty _ => exact hf.elim
theorem no_bad {xs : List V} (h : (xs.filter fun x => !okI x).isEmpty = true) : (xs.map okI).all id = true := by
  rw [List.isEmpty_iff, List.filter_eq_nil_iff] at h
  rw [List.all_eq_true]
  intro b hb
  obtain ⟨x, hx, rfl⟩ := List.mem_map.mp hb
  have := h x hx
  simpa using this
theorem a_bad {xs : List V} (h : (xs.filter fun x => !okI x).isEmpty = false) : (xs.map okI).all id = false := by
  cases e : (xs.map okI).all id with
  | false => rfl
  | true =>
    exfalso
    have q : (xs.filter fun x => !okI x) = [] := by
      rw [List.filter_eq_nil_iff]
      intro x hx
      rw [List.all_eq_true] at e
      have := e (okI x) (List.mem_map_of_mem hx)
      simpa using this
    rw [q] at h
    cases h
abbrev sp__law_shows (K : PySem.W.Frag) : Sp := spShow K
theorem ok__law_shows {P : Program} {w : World} {K : PySem.W.Frag} {mg : Str → Option Value} {base : Heap} {fd : FuncData} (T : Txt K mg) (F : FnP K "_law_shows" s__law_shows [] fd) : FnOk P w K mg base CX0 2 (He.ga K "_law_shows") fd ps__law_shows (sp__law_shows K) := by
  obtain ⟨fd__law_is_clock, F__law_is_clock⟩ := T.d__law_is_clock
  have G__law_is_clock := ok__law_is_clock (P := P) (w := w) (base := base) T F__law_is_clock
  have k__law_is_clock := F__law_is_clock.kp
  have b__law_is_clock := bi__law_is_clock F__law_is_clock
  refine F.ok sc__law_shows (fun vs H Q E h => ?len) (fun cdv A outer s H vs Q E hr h => ?body)
  case len => obtain ⟨wa, l, t, s, v, b, rfl, h1, h2, h3, h4, h5, hR, k⟩ := h; rfl
  case body =>
  obtain ⟨wa, l, t, s, v, b, rfl, h1, h2, h3, h4, h5, hR, k⟩ := h
  have hu := hu_of hr
  refine ⟨_, PSs.nox (pss_cons (ps_if (PW.pt (pw_or (pt_not (pt_val (pe_callB call_isi (by rfl) T.n_isinstance (by decide +kernel) (pa_cons (pv 3) (pa_cons (pe_bltn (v := .ty "tuple") rfl T.n_tuple (by decide +kernel) rfl) pa_nil))))) (pw_or (pt_cmpR op_ne (pe_callB call_len_seq (by rfl) T.n_len (by decide +kernel) (pa_cons (pv 3) pa_nil)) pe_int (nomark _)) (pw_or1 (pt_cmpR (op_neD hr.units) (pe_lc (own := [("_law_one_here", 4)]) rfl sc__law_shows.nd (pi_tup (pv 3)) (blkOk_by (own := [("_law_one_here", 4)]) (N := N__law_shows) (sc := defScope s__law_shows) (by decide +kernel)) (fun _ _ _ _ _ => (pg_name (i := 4) sc__law_shows.nd rfl (Or.inl rfl))) (fun _ _ _ _ _ => (pts_one (pt_not (pt_val (pe_call G__law_is_clock (hr.mono (by decide)) rfl T.g__law_is_clock k__law_is_clock b__law_is_clock .nil pass0 (pa_cons (pv 4) pa_nil)))))) (fun _ _ _ _ _ => (pv 4))) (pe_lst pa_nil) (nomark _)))))) (pss_one (ps_ret pe_bl)) pss_nil)
    (pss_cons (ps_if (PW.pt (pw_or (pt_cmpR op_lt (pe_ix ix_tup (pv 3) pe_int (fun _ _ => rfl)) (pe_ix ix_tup (pv 3) pe_int (fun _ _ => rfl)) (nomark _)) (pw_or (pt_cmpR op_lt (pe_ix ix_tup (pv 3) pe_int (fun _ _ => rfl)) (pe_ix ix_tup (pv 3) pe_int (fun _ _ => rfl)) (nomark _)) (pw_or (pt_cmpR op_ge (pe_ix ix_tup (pv 3) pe_int (fun _ _ => rfl)) (pe_op op_add (pe_ix ix_tup (pv 3) pe_int (fun _ _ => rfl)) (pv 0)) (nomark _)) (pw_or1 (pt_cmpR op_lt (pe_ix ix_tup (pv 3) pe_int (fun _ _ => rfl)) (pe_op op_add (pe_ix ix_tup (pv 3) pe_int (fun _ _ => rfl)) (pv 1)) (nomark _))))))) (pss_one (ps_ret pe_bl)) pss_nil)
    (pss_one (ps_ret (pe_and (pe_chain op_le op_le (pe_un un_neg (pv 2)) (pe_op op_sub (pe_ix ix_tup (pv 3) pe_int (fun _ _ => rfl)) (pe_ix ix_tup (pv 3) pe_int (fun _ _ => rfl))) (pv 2)) (pe_one (pe_chain op_le op_le (pe_un un_neg (pv 2)) (pe_op op_sub (pe_ix ix_tup (pv 3) pe_int (fun _ _ => rfl)) (pe_ix ix_tup (pv 3) pe_int (fun _ _ => rfl))) (pv 2)))))))), ?_⟩
  rcases hR.two (K := K) with ⟨a, xs, rfl, rfl, hx, hf⟩ | ⟨rfl, u, hT, he⟩
  rotate_left
  · refine ⟨_, rfl, v, .ty "tuple", _, _, _, rfl, .ty "tuple", hT, he, _, rfl, ?_⟩
    exact iteT (iteT (k H (Same.refl H)))
  ·
    refine ⟨_, rfl, _, .ty "tuple", _, _, _, rfl, .ty "tuple", .base (.tup hx), kit_ty (show kitB "tuple" "tuple" = some true by decide +kernel), _, rfl, ?_⟩
    refine iteF ⟨_, rfl, a, xs, rfl, .inr (SqT.of hx), rfl, _, rfl, ?_⟩
    by_cases hl : xs.length = 4
    · have e4 : (!decide (V.int (xs.length : Int) = V.int 4)) = false := by rw [hl]; rfl
      rw [e4]
      refine iteF ⟨_, rfl, a, rfl, ⟨_, SqT.of hx⟩, fun D hD => ?_⟩
      refine lc_tup (K := K) (a := a) (xs := xs) (fun i H' => Same H H' ∧ H' D = some (.lst ((xs.take i).filter fun x => !okI x))) ⟨Same.new hD, upd_same⟩ (fun i H' _ ⟨sm, _⟩ => .inl (.inl (sm _ _ hx))) ?_ ?_
      · rintro i x H' hi ⟨sm, hD'⟩
        have fx := (hf hl x (mem_at hi)).1
        refine ⟨rfl, ?_⟩
        refine ⟨_, rfl, x, rfl, fx, _, rfl, ?_⟩
        cases eo : okI x with
        | true =>
          refine iteF ⟨sm, ?_⟩
          rw [hD', get_take hi, List.filter_append]
          simp [eo]
        | false =>
          refine iteT ⟨_, rfl, _, hD', small1000 (Nat.le_trans (List.length_filter_le _ _) (by rw [List.length_take]; have := lt_at hi; omega)), fun b o hb => ?_, ?_⟩
          · rw [upd_ne (ne_of_none hb hD)]; exact sm b o hb
          · rw [upd_same, get_take hi, List.filter_append]
            simp [eo]
      · rintro H' ⟨sm, hD'⟩
        rw [List.take_length] at hD'
        have fl : ∀ x ∈ xs.filter (fun x => !okI x), flat x ∧ okS x := fun x hx => hf hl x (List.mem_filter.mp hx).1
        refine ⟨smallN (by decide), fun p hp => ?_⟩
        have hD2 : upd H' p (.lst []) D = some (.lst (xs.filter fun x => !okI x)) := by rw [upd_ne (ne_of_none hD' hp)]; exact hD'
        refine ⟨_, .list [], .lst (SqL.of hD2) (dps_flat fun x hx => (fl x hx).1), .lst (SqL.of upd_same) .nil, sh_list fun x hx => (fl x hx).2, by decide, _, rfl, ?_⟩
        have sm2 : Same H (upd H' p (.lst [])) := Same.trans sm (Same.new hp)
        have hx2 := SqT.of (K := K) (sm2 _ _ hx)
        rw [eqv_nil]
        cases ee : (xs.filter fun x => !okI x).isEmpty with
        | false =>
          refine iteT ?_
          have := k _ sm2
          rw [notall (a_bad ee)] at this
          exact this
        | true =>
          refine iteF ?_
          obtain ⟨a0, b0, a1, b1, rfl, p0, p1, p2, p3⟩ := all4 hl (no_bad ee)
          have kk := k _ sm2
          have e1 : (decide (0 ≤ a0 ∧ 0 ≤ b0 ∧ 0 ≤ a1 ∧ 0 ≤ b1)) = true := decide_eq_true ⟨p0, p1, p2, p3⟩
          simp only [showB, e1, Bool.true_and] at kk
          have bad : (¬ (-s ≤ a0 - b0 ∧ a0 - b0 ≤ s ∧ -s ≤ a1 - b1 ∧ a1 - b1 ≤ s ∧ a0 ≤ a1 ∧ b0 ≤ b1 ∧ a1 < a0 + l ∧ a0 + t ≤ b1)) → Q (.bl false) (upd H' p (.lst [])) := fun z => by
            rw [decide_eq_false z] at kk
            exact kk
          refine ⟨_, rfl, a, _, 2, .int a1, rfl, rfl, hx2, rfl, _, rfl, a, _, 0, .int a0, rfl, rfl, hx2, rfl, _, _, rfl, rfl, _, rfl, ?_⟩
          refine ite2 (fun c1 => ?_) (fun c1 => ?_)
          · exact iteT (bad (by have := of_decide_eq_true c1; omega))
          have c1 := of_decide_eq_false (Bool.eq_false_iff.mpr c1)
          refine ⟨_, rfl, a, _, 3, .int b1, rfl, rfl, hx2, rfl, _, rfl, a, _, 1, .int b0, rfl, rfl, hx2, rfl, _, _, rfl, rfl, _, rfl, ?_⟩
          refine ite2 (fun c2 => ?_) (fun c2 => ?_)
          · exact iteT (bad (by have := of_decide_eq_true c2; omega))
          have c2 := of_decide_eq_false (Bool.eq_false_iff.mpr c2)
          refine ⟨_, rfl, a, _, 2, .int a1, rfl, rfl, hx2, rfl, _, rfl, a, _, 0, .int a0, rfl, rfl, hx2, rfl, _, rfl, _, _, rfl, rfl, _, _, rfl, rfl, _, rfl, ?_⟩
          refine ite2 (fun c3 => ?_) (fun c3 => ?_)
          · exact iteT (bad (by have := of_decide_eq_true c3; omega))
          have c3 := of_decide_eq_false (Bool.eq_false_iff.mpr c3)
          refine ⟨_, rfl, a, _, 3, .int b1, rfl, rfl, hx2, rfl, _, rfl, a, _, 0, .int a0, rfl, rfl, hx2, rfl, _, rfl, _, _, rfl, rfl, _, _, rfl, rfl, _, rfl, ?_⟩
          refine ite2 (fun c4 => ?_) (fun c4 => ?_)
          · exact bad (by have := of_decide_eq_true c4; omega)
          have c4 := of_decide_eq_false (Bool.eq_false_iff.mpr c4)
          refine ⟨_, rfl, _, rfl, _, rfl, a, _, 0, .int a0, rfl, rfl, hx2, rfl, _, rfl, a, _, 1, .int b0, rfl, rfl, hx2, rfl, _, _, rfl, rfl, _, _, rfl, rfl, _, rfl, ?_⟩
          refine ite2 (fun c5 => ?_) (fun c5 => ⟨_, rfl, iteF (bad (by have := of_decide_eq_false (Bool.eq_false_iff.mpr c5); omega))⟩)
          have c5 := of_decide_eq_true c5
          refine ⟨_, rfl, _, _, rfl, rfl, _, rfl, ?_⟩
          refine ite2 (fun c6 => ?_) (fun c6 => bad (by have := of_decide_eq_false (Bool.eq_false_iff.mpr c6); omega))
          have c6 := of_decide_eq_true c6
          refine ⟨_, rfl, _, rfl, _, rfl, a, _, 2, .int a1, rfl, rfl, hx2, rfl, _, rfl, a, _, 3, .int b1, rfl, rfl, hx2, rfl, _, _, rfl, rfl, _, _, rfl, rfl, _, rfl, ?_⟩
          refine ite2 (fun c7 => ?_) (fun c7 => bad (by have := of_decide_eq_false (Bool.eq_false_iff.mpr c7); omega))
          have c7 := of_decide_eq_true c7
          refine ⟨_, rfl, _, _, rfl, rfl, ?_⟩
          have e : decide (-s ≤ a0 - b0 ∧ a0 - b0 ≤ s ∧ -s ≤ a1 - b1 ∧ a1 - b1 ≤ s ∧ a0 ≤ a1 ∧ b0 ≤ b1 ∧ a1 < a0 + l ∧ a0 + t ≤ b1) = decide (a1 - b1 ≤ s) := by
            rw [decide_eq_decide]
            constructor
            · intro z; omega
            · intro z; omega
          rw [e] at kk
          exact kk
    · have e4 : (!decide (V.int (xs.length : Int) = V.int 4)) = true := by
        have : ¬ V.int (xs.length : Int) = V.int 4 := fun z => hl (by injection z with z; omega)
        rw [decide_eq_false this]; rfl
      rw [e4]
      refine iteT (iteT ?_)
      have := k H (Same.refl H)
      rw [show4 hl] at this
      exact this

/-! ### one of some values -/
theorem well_ne {H : Hp} {a b : Addr} {n : Nat} {o : HO} (h : WellAt H a n) (hb : H b = some o) (ho : ∀ xs, o = .lst xs → xs.length ≠ 3) : b ≠ a := by
  obtain ⟨u, hu, x, y, rfl⟩ := h
  exact ne_of hb hu fun z => ho _ z rfl
theorem well_ne3 {H : Hp} {a p : Addr} {n : Nat} (h : WellAt H a n) (hp : H p = none) : p ≠ a := by
  obtain ⟨u, hu, _⟩ := h
  exact fun z => by rw [z, hu] at hp; cases hp
theorem well_upd {H : Hp} {a : Addr} {n : Nat} {u : HO} (h : WellO u n) : WellAt (upd H a u) a n := ⟨u, upd_same, h⟩
theorem well_new {H : Hp} {a p : Addr} {n : Nat} {u : HO} (h : WellAt H a n) (hp : H p = none) : WellAt (upd H p u) a n := by
  obtain ⟨v, hv, w⟩ := h
  exact ⟨v, by rw [upd_ne (ne_of_none hv hp)]; exact hv, w⟩
def sp__law_one (K : PySem.W.Frag) : Sp := fun vs H Q _ => ∃ (a b : Addr) (n : Nat) (ys : List V), vs = [.ref a, .ref b] ∧ WellAt H a n ∧ n < 1000000 ∧ H b = some (.lst ys) ∧ b ≠ a ∧ 0 < ys.length ∧ ys.length ≤ 1000 ∧
  ∀ (y : V) (u : HO) (n' : Nat), y ∈ ys → n' ≤ n + 1 → WellO u n' → Q y (upd H a u)
theorem ok__law_one {P : Program} {w : World} {K : PySem.W.Frag} {mg : Str → Option Value} {base : Heap} {fd : FuncData} (T : Txt K mg) (F : FnP K "_law_one" s__law_one [] fd) : FnOk P w K mg base CX0 2 (He.ga K "_law_one") fd ps__law_one (sp__law_one K) := by
  obtain ⟨fd__law_draw, F__law_draw⟩ := T.d__law_draw
  have G__law_draw := ok__law_draw (P := P) (w := w) (base := base) T F__law_draw
  have k__law_draw := F__law_draw.kp
  have b__law_draw := bi__law_draw F__law_draw
  refine F.ok sc__law_one (fun vs H Q E h => ?len) (fun cdv A outer s H vs Q E hr h => ?body)
  case len => obtain ⟨a, b, n, ys, rfl, hw, hn, hb, hne, h0, h1, k⟩ := h; rfl
  case body =>
  obtain ⟨a, b, n, ys, rfl, hw, hn, hb, hne, h0, h1, k⟩ := h
  have hu := hu_of hr
  refine ⟨_, PSs.nox (pss_one (ps_ret (pe_ix ix_list (pv 1) (pe_call G__law_draw (hr.mono (by decide)) rfl T.g__law_draw k__law_draw b__law_draw .nil pass0 (pa_cons (pv 0) (pa_cons (pe_callB call_len_seq (by rfl) T.n_len (by decide +kernel) (pa_cons (pv 1) pa_nil)) pa_nil))) (fun _ _ => rfl)))), ?_⟩
  refine ⟨_, rfl, _, rfl, _, rfl, b, ys, rfl, .inl (SqL.of hb), a, n, _, rfl, hw, hn, (by omega), (by omega), fun r u n' r0 r1 hn' hu' => ?_⟩
  have hb' : upd H a u b = some (.lst ys) := by rw [upd_ne hne]; exact hb
  obtain ⟨j, rfl⟩ := Int.eq_ofNat_of_zero_le r0
  have hj : j < ys.length := by omega
  have e : ys[j]? = some ys[j] := List.getElem?_eq_getElem hj
  exact ⟨b, ys, _, ys[j], rfl, rfl, SqL.of hb', atI_nat e, k _ u n' (List.getElem_mem hj) hn' hu'⟩

/-! ### a bool in an int's place -/
@[irreducible] def rAddM : R2 := fun x y H Q => (∃ i j : Int, x = .int i ∧ y = .int j ∧ Q (.int (i + j)) H) ∨ ∃ (k : Bool) (j : Int), x = .bl k ∧ y = .int j ∧ Q (.int ((if k = true then (1 : Int) else 0) + j)) H
@[irreducible] def rSubM : R2 := fun x y H Q => (∃ i j : Int, x = .int i ∧ y = .int j ∧ Q (.int (i - j)) H) ∨ ∃ (k : Bool) (j : Int), x = .bl k ∧ y = .int j ∧ Q (.int ((if k = true then (1 : Int) else 0) - j)) H
theorem op_addM {X : Cx} : OpR X (binaryOp .Add) rAddM := by
  unfold rAddM
  refine OpR.or op_add ?_
  intro pins s σ H x y v u Q I rx ry h
  obtain ⟨k, j, rfl, rfl, q⟩ := h
  cases rx
  obtain ⟨t, rfl⟩ := ry
  exact PySem.IntBool.add_bool_int ⟨.int _, H, I.tok _, ⟨_, rfl⟩, q⟩
theorem op_subM {X : Cx} : OpR X (binaryOp .Sub) rSubM := by
  unfold rSubM
  refine OpR.or op_sub ?_
  intro pins s σ H x y v u Q I rx ry h
  obtain ⟨k, j, rfl, rfl, q⟩ := h
  cases rx
  obtain ⟨t, rfl⟩ := ry
  exact PySem.IntBool.sub_bool_int ⟨.int _, H, I.tok _, ⟨_, rfl⟩, q⟩
def NumV (x : V) : Prop := (∃ i, x = .int i) ∨ ∃ b, x = .bl b
theorem addM {x : V} {j : Int} {H : Hp} {Q : VK} (h : NumV x) (q : ∀ z : Int, Q (.int z) H) : rAddM x (.int j) H Q := by
  unfold rAddM
  rcases h with ⟨i, rfl⟩ | ⟨b, rfl⟩
  · exact .inl ⟨i, j, rfl, rfl, q _⟩
  · exact .inr ⟨b, j, rfl, rfl, q _⟩
theorem subM {x : V} {j : Int} {H : Hp} {Q : VK} (h : NumV x) (q : ∀ z : Int, Q (.int z) H) : rSubM x (.int j) H Q := by
  unfold rSubM
  rcases h with ⟨i, rfl⟩ | ⟨b, rfl⟩
  · exact .inl ⟨i, j, rfl, rfl, q _⟩
  · exact .inr ⟨b, j, rfl, rfl, q _⟩
theorem cut_mem {xs : List V} {lo hi : Option Int} {y : V} (h : y ∈ cutV xs lo hi) : y ∈ xs := List.mem_of_mem_drop (List.mem_of_mem_take h)
theorem cut_len {ys : List V} (hl : ys.length = 4) {r : Int} (h0 : 0 ≤ r) (h1 : r < 4) (v : V) : (cutV ys none (some r)).length = r.toNat ∧ (cutV ys (some (r + 1)) none).length = 3 - r.toNat := by
  match ys, hl with
  | [a, b, c, d], _ =>
    have : r = 0 ∨ r = 1 ∨ r = 2 ∨ r = 3 := by omega
    rcases this with rfl | rfl | rfl | rfl <;> exact ⟨rfl, rfl⟩
def AnyRun (w : Addr) (H : Hp) (v : V) : Prop := ∀ l t s : Int, ∃ b, Run w l t s H v b
theorem any_tup {w : Addr} {H : Hp} {a : Addr} {xs : List V} (h : H a = some (.tup xs)) (f : xs.length = 4 → ∀ x ∈ xs, flat x ∧ okS x) : AnyRun w H (.ref a) := fun l t s => ⟨_, .tup h f⟩
theorem any_flat {w : Addr} {H : Hp} {v : V} (h : flat v) : AnyRun w H v := fun l t s => ⟨false, .flt h⟩
theorem any_lst {w : Addr} {H : Hp} {a : Addr} {xs : List V} (h : H a = some (.lst xs)) (hl : a ≠ w) : AnyRun w H (.ref a) := fun l t s => ⟨false, .lst h hl⟩
theorem any_dK {w : Addr} {H : Hp} {a : Addr} {xs : List (Key × V)} (h : H a = some (.dK xs)) : AnyRun w H (.ref a) := fun l t s => ⟨false, .dK h⟩
theorem any_keep {a : Addr} {n : Nat} {H H' : Hp} {v : V} (w : WellAt H a n) (x : Keep a H H') (h : AnyRun a H v) : AnyRun a H' v := fun l t s => by
  obtain ⟨b, r⟩ := h l t s
  cases r with
  | tup hh f => exact ⟨_, .tup (x _ _ (well_ne w hh fun _ z => by cases z) hh) f⟩
  | lst hh hl => exact ⟨_, .lst (x _ _ hl hh) hl⟩
  | dK hh => exact ⟨_, .dK (x _ _ (well_ne w hh fun _ z => by cases z) hh)⟩
  | flt hh => exact ⟨_, .flt hh⟩
/-- a list grows -/
theorem any_grow {a D : Addr} {H : Hp} {v : V} {xs ys : List V} (hD : H D = some (.lst xs)) (h : AnyRun a H v) : AnyRun a (upd H D (.lst ys)) v := fun l t s => by
  obtain ⟨b, r⟩ := h l t s
  cases r with
  | tup hh f => exact ⟨_, .tup (by rw [upd_ne (ne_of hh hD fun z => by cases z)]; exact hh) f⟩
  | @lst p zs hh hl =>
    by_cases e : p = D
    · subst e; exact ⟨_, .lst upd_same hl⟩
    · exact ⟨_, .lst (by rw [upd_ne e]; exact hh) hl⟩
  | dK hh => exact ⟨_, .dK (by rw [upd_ne (ne_of hh hD fun z => by cases z)]; exact hh)⟩
  | flt hh => exact ⟨_, .flt hh⟩
theorem any_same {a : Addr} {H H' : Hp} {v : V} (x : Same H H') (h : AnyRun a H v) : AnyRun a H' v := fun l t s => by
  obtain ⟨b, r⟩ := h l t s
  cases r with
  | tup hh f => exact ⟨_, .tup (x _ _ hh) f⟩
  | lst hh hl => exact ⟨_, .lst (x _ _ hh) hl⟩
  | dK hh => exact ⟨_, .dK (x _ _ hh)⟩
  | flt hh => exact ⟨_, .flt hh⟩
def Ints4 (xs : List V) : Prop := ∃ a b c d : Int, xs = [.int a, .int b, .int c, .int d]
def sp__law_bent (K : PySem.W.Frag) : Sp := fun vs H Q _ => ∃ (a f : Addr) (n : Nat) (xs : List V), vs = [.ref a, .ref f] ∧ WellAt H a n ∧ n < 900000 ∧ H f = some (.tup xs) ∧ Ints4 xs ∧
  ∀ (v : V) (H' : Hp) (n' : Nat), Keep a H H' → WellAt H' a n' → n' ≤ n + 20 → AnyRun a H' v → Q v H'
theorem ok__law_bent {P : Program} {w : World} {K : PySem.W.Frag} {mg : Str → Option Value} {base : Heap} {fd : FuncData} (T : Txt K mg) (F : FnP K "_law_bent" s__law_bent [] fd) : FnOk P w K mg base CX0 3 (He.ga K "_law_bent") fd ps__law_bent (sp__law_bent K) := by
  obtain ⟨fd__law_draw, F__law_draw⟩ := T.d__law_draw
  have G__law_draw := ok__law_draw (P := P) (w := w) (base := base) T F__law_draw
  have k__law_draw := F__law_draw.kp
  have b__law_draw := bi__law_draw F__law_draw
  obtain ⟨fd__law_one, F__law_one⟩ := T.d__law_one
  have G__law_one := ok__law_one (P := P) (w := w) (base := base) T F__law_one
  have k__law_one := F__law_one.kp
  have b__law_one := bi__law_one F__law_one
  refine F.ok sc__law_bent (fun vs H Q E h => ?len) (fun cdv A outer s H vs Q E hr h => ?body)
  case len => obtain ⟨a, f, n, xs, rfl, hw, hn, hf, hi, k⟩ := h; rfl
  case body =>
  obtain ⟨a, f, n, xs, rfl, hw, hn, hf, hi, k⟩ := h
  have hu := hu_of hr
  refine ⟨_, PSs.nox (pss_cons (ps_if (pt_cmpR op_eq (pe_call G__law_draw (hr.mono (by decide)) rfl T.g__law_draw k__law_draw b__law_draw .nil pass0 (pa_cons (pv 0) (pa_cons pe_int pa_nil))) pe_int (nomark _)) (pss_one (ps_ret (pe_call G__law_one (hr.mono (by decide)) rfl T.g__law_one k__law_one b__law_one .nil pass0 (pa_cons (pv 0) (pa_cons (pe_lst (pa_cons (pe_callTy call_list_of (by rfl) T.n_list (by decide +kernel) (pa_cons (pv 1) pa_nil)) (pa_cons (pe_slice sl_tup (pv 1) po_none (po_some pe_int)) (pa_cons (pe_op op_catT (pv 1) (pe_tup (pa_cons pe_int pa_nil))) (pa_cons pe_non (pa_cons pe_int (pa_cons pe_str (pa_cons pe_dnewK (pa_cons (pe_tup (pa_cons (pv 1) pa_nil)) (pa_cons (pe_tup pa_nil) pa_nil)))))))))) pa_nil))))) pss_nil)
    (pss_cons (ps_set (i := 2) sc__law_bent.nd rfl (Or.inl rfl) (pe_callTy call_list_of (by rfl) T.n_list (by decide +kernel) (pa_cons (pv 1) pa_nil)))
    (pss_cons (ps_for PassesOwn.never rfl (pi_range1 rfl T.n_range (pa_cons (pe_op op_add pe_int (pe_call G__law_draw (hr.mono (by decide)) rfl T.g__law_draw k__law_draw b__law_draw .nil pass0 (pa_cons (pv 0) (pa_cons pe_int pa_nil)))) pa_nil)) (pg_name (i := 3) sc__law_bent.nd rfl (Or.inl rfl))
      (pss_cons (ps_set (i := 4) sc__law_bent.nd rfl (Or.inl rfl) (pe_call G__law_draw (hr.mono (by decide)) rfl T.g__law_draw k__law_draw b__law_draw .nil pass0 (pa_cons (pv 0) (pa_cons pe_int pa_nil))))
        (pss_cons (ps_set (i := 5) sc__law_bent.nd rfl (Or.inl rfl) (pe_ifExp (pt_val (pe_callB call_isi (by rfl) T.n_isinstance (by decide +kernel) (pa_cons (pe_ix ix_list (pv 2) (pv 4) (fun _ _ => rfl)) (pa_cons (pe_bltn (v := .ty "int") rfl T.n_int (by decide +kernel) rfl) pa_nil)))) (pe_ix ix_list (pv 2) (pv 4) (fun _ _ => rfl)) pe_int))
        (pss_cons (ps_set (i := 6) sc__law_bent.nd rfl (Or.inl rfl) (pe_call G__law_one (hr.mono (by decide)) rfl T.g__law_one k__law_one b__law_one .nil pass0 (pa_cons (pv 0) (pa_cons (pe_lst (pa_cons (pe_op op_addM (pv 5) pe_int) (pa_cons (pe_op op_subM (pv 5) pe_int) (pa_cons (pe_op op_addM (pv 5) (pe_call G__law_draw (hr.mono (by decide)) rfl T.g__law_draw k__law_draw b__law_draw .nil pass0 (pa_cons (pv 0) (pa_cons pe_int pa_nil)))) (pa_cons (pe_un un_neg pe_int) (pa_cons pe_non (pa_cons pe_bl (pa_cons pe_str (pa_cons (pe_op op_pow pe_int pe_int) pa_nil))))))))) pa_nil))))
        (pss_one (ps_set (i := 2) sc__law_bent.nd rfl (Or.inl rfl) (pe_op op_cat (pe_op op_cat (pe_slice sl_list (pv 2) po_none (po_some (pv 4))) (pe_lst (pa_cons (pv 6) pa_nil))) (pe_slice sl_list (pv 2) (po_some (pe_op op_add (pv 4) pe_int)) po_none))))))))
    (pss_one (ps_ret (pe_callTy call_tuple_of (by rfl) T.n_tuple (by decide +kernel) (pa_cons (pv 2) pa_nil))))))), ?_⟩
  have hfa : f ≠ a := well_ne hw hf (fun _ z => by cases z)
  refine ⟨_, rfl, a, n, 4, rfl, hw, by omega, by decide, by decide, fun r u n1 r0 r1 hn1 hu1 => ?_⟩
  have w1 := well_upd (H := H) (a := a) hu1
  have f1 : upd H a u f = some (.tup xs) := by rw [upd_ne hfa]; exact hf
  have K1 : Keep a H (upd H a u) := Keep.at_
  generalize upd H a u = H1 at w1 f1 K1 ⊢
  refine ⟨rfl, _, rfl, ?_⟩
  refine ite2 (fun _ => ?_) (fun _ => ?_)
  · -- one of nine
    obtain ⟨i0, i1, i2, i3, rfl⟩ := hi
    refine ⟨_, rfl, _, rfl, f, _, rfl, .inr (SqT.of f1), fun l1 e1 => ?_⟩
    have S1 : Same H1 (upd H1 l1 (.lst [.int i0, .int i1, .int i2, .int i3])) := Same.new e1
    have g1 : (upd H1 l1 (.lst [.int i0, .int i1, .int i2, .int i3])) l1 = some (.lst [.int i0, .int i1, .int i2, .int i3]) := upd_same
    generalize upd H1 l1 (.lst [.int i0, .int i1, .int i2, .int i3]) = H2 at S1 g1 ⊢
    refine ⟨_, rfl, 3, rfl, f, _, rfl, SqT.of (S1 _ _ f1), (by show ¬ ((0 : Nat) = 0 ∧ (3 : Nat) = 4); decide), fun l2 e2 => ?_⟩
    have S2 := Same.new (u := .tup (cutV [.int i0, .int i1, .int i2, .int i3] none (some 3))) e2
    have g2 : (upd H2 l2 (.tup (cutV [.int i0, .int i1, .int i2, .int i3] none (some 3)))) l2 = some (.tup [.int i0, .int i1, .int i2]) := upd_same
    generalize upd H2 l2 (.tup (cutV [.int i0, .int i1, .int i2, .int i3] none (some 3))) = H3 at S2 g2 ⊢
    refine ⟨_, rfl, smallN (by show 1 ≤ 1000; decide), fun l3 e3 => ?_⟩
    have S3 := Same.new (u := .tup [.int 0]) e3
    have g3 : (upd H3 l3 (.tup [.int 0])) l3 = some (.tup [.int 0]) := upd_same
    generalize upd H3 l3 (.tup [.int 0]) = H4 at S3 g3 ⊢
    have S03 : Same H1 H4 := S1.trans (S2.trans S3)
    refine ⟨f, l3, _, _, rfl, rfl, SqT.of (S03 _ _ f1), SqT.of g3, (by simp), smallN (by show 5 ≤ 1000; decide), fun z => (by cases z), fun _ l4 e4 => ?_⟩
    have S4 := Same.new (u := .tup ([V.int i0, .int i1, .int i2, .int i3] ++ [.int 0])) e4
    have g4 : (upd H4 l4 (.tup ([V.int i0, .int i1, .int i2, .int i3] ++ [.int 0]))) l4 = some (.tup [.int i0, .int i1, .int i2, .int i3, .int 0]) := upd_same
    generalize upd H4 l4 (.tup ([V.int i0, .int i1, .int i2, .int i3] ++ [.int 0])) = H5 at S4 g4 ⊢
    intro l5 e5
    have S5 := Same.new (u := .dK []) e5
    have g5 : (upd H5 l5 (.dK [])) l5 = some (.dK []) := upd_same
    generalize upd H5 l5 (.dK []) = H6 at S5 g5 ⊢
    refine ⟨_, rfl, smallN (by show 1 ≤ 1000; decide), fun l6 e6 => ?_⟩
    have S6 := Same.new (u := .tup [.ref f]) e6
    have g6 : (upd H6 l6 (.tup [.ref f])) l6 = some (.tup [.ref f]) := upd_same
    generalize upd H6 l6 (.tup [.ref f]) = H7 at S6 g6 ⊢
    refine ⟨smallN (by show 0 ≤ 1000; decide), fun l7 e7 => ?_⟩
    have S7 := Same.new (u := .tup []) e7
    have g7 : (upd H7 l7 (.tup [])) l7 = some (.tup []) := upd_same
    generalize upd H7 l7 (.tup []) = H8 at S7 g7 ⊢
    refine ⟨smallN (by show 9 ≤ 1000; decide), fun l8 e8 => ?_⟩
    have S8 := Same.new (u := .lst [.ref l1, .ref l2, .ref l4, .non, .int 7, .str "0000", .ref l5, .ref l6, .ref l7]) e8
    have g8 : (upd H8 l8 (.lst [.ref l1, .ref l2, .ref l4, .non, .int 7, .str "0000", .ref l5, .ref l6, .ref l7])) l8 = some (.lst [.ref l1, .ref l2, .ref l4, .non, .int 7, .str "0000", .ref l5, .ref l6, .ref l7]) := upd_same
    generalize upd H8 l8 (.lst [.ref l1, .ref l2, .ref l4, .non, .int 7, .str "0000", .ref l5, .ref l6, .ref l7]) = H9 at S8 g8 ⊢
    have S68 : Same H6 H9 := S6.trans (S7.trans S8)
    have S48 : Same H4 H9 := S4.trans (S5.trans S68)
    have S18 : Same H1 H9 := S03.trans S48
    obtain ⟨u1, wu, wo⟩ := id w1
    have w9 : WellAt H9 a n1 := ⟨u1, S18 _ _ wu, wo⟩
    have m1 := S2.trans (S3.trans S48) _ _ g1
    have m2 := S3.trans S48 _ _ g2
    have m4 := S5.trans S68 _ _ g4
    have m5 := S68 _ _ g5
    have m6 := S7.trans S8 _ _ g6
    have m7 := S8 _ _ g7
    have q : ∀ {b : Addr} {o : HO}, H9 b = some o → (∀ xs, o = .lst xs → xs.length ≠ 3) → b ≠ a := fun hb ho => well_ne w9 hb ho
    refine ⟨a, l8, n1, _, rfl, w9, by omega, g8, q g8 (fun xs z => by cases z; simp), (by simp), (by simp), fun y v n2 hy hn2 hv => ?_⟩
    have Kn : Keep a H9 (upd H9 a v) := Keep.at_
    refine k y _ n2 (K1.trans ((Keep.of S18).trans Kn)) (well_upd hv) (by omega) ?_
    have nl1 : l1 ≠ a := q m1 (fun xs z => by cases z; simp)
    simp only [List.mem_cons, List.mem_nil_iff, or_false] at hy
    rcases hy with rfl | rfl | rfl | rfl | rfl | rfl | rfl | rfl | rfl
    · exact any_lst (Kn _ _ nl1 m1) nl1
    · exact any_tup (Kn _ _ (q m2 (fun xs z => by cases z)) m2) (fun z => by cases z)
    · exact any_tup (Kn _ _ (q m4 (fun xs z => by cases z)) m4) (fun z => by cases z)
    · exact any_flat True.intro
    · exact any_flat True.intro
    · exact any_flat True.intro
    · exact any_dK (Kn _ _ (q m5 (fun xs z => by cases z)) m5)
    · exact any_tup (Kn _ _ (q m6 (fun xs z => by cases z)) m6) (fun z => by cases z)
    · exact any_tup (Kn _ _ (q m7 (fun xs z => by cases z)) m7) (fun z => by cases z)
  · refine ⟨_, rfl, f, _, rfl, .inr (SqT.of f1), fun L eL => ?_⟩
    have SL := Same.new (u := .lst xs) eL
    have gL : (upd H1 L (.lst xs)) L = some (.lst xs) := upd_same
    have wL := well_new (u := .lst xs) w1 eL
    generalize upd H1 L (.lst xs) = H2 at SL gL wL ⊢
    refine ⟨_, rfl, a, n1, 2, rfl, wL, by omega, by decide, by decide, fun c uc n2 c0 c1 hn2 hu2 => ?_⟩
    have hx4 : xs.length = 4 ∧ ∀ x ∈ xs, flat x ∧ okS x := by
      obtain ⟨i0, i1, i2, i3, rfl⟩ := hi
      refine ⟨rfl, fun x hx => ?_⟩
      simp only [List.mem_cons, List.mem_nil_iff, or_false] at hx
      rcases hx with rfl | rfl | rfl | rfl <;> exact ⟨True.intro, True.intro⟩
    have neL : L ≠ a := well_ne wL gL (fun zs z => by cases z; omega)
    have K2 : Keep a H1 (upd H2 a uc) := (Keep.of SL).trans Keep.at_
    have g2 : upd H2 a uc L = some (.lst xs) := by rw [upd_ne neL]; exact gL
    have w2 := well_upd (H := H2) (a := a) hu2
    generalize upd H2 a uc = H3 at K2 g2 w2 ⊢
    refine ⟨_, _, rfl, rfl, _, rfl, by omega, by omega, for_range (lo := 0) (n := (1 + c).toNat) (fun i σ H' => ∃ (L' : Addr) (ys : List V) (n' : Nat) (v3 v4 v5 v6 : Option V), σ = [some (.ref a), some (.ref f), some (.ref L'), v3, v4, v5, v6] ∧ Keep a H1 H' ∧ WellAt H' a n' ∧ n' ≤ n2 + 3 * i ∧ H' L' = some (.lst ys) ∧ ys.length = 4 ∧ ∀ y ∈ ys, flat y ∧ okS y)
      ⟨L, xs, n2, none, none, none, none, rfl, K2, w2, Nat.le_refl _, g2, hx4⟩ ?_ ?_⟩
    · rintro i σ H4 hi4 ⟨L', ys, n', v3, v4, v5, v6, rfl, K4, w4, hn4, g4, hy4, hys⟩
      have nL : L' ≠ a := well_ne w4 g4 (fun zs z => by cases z; omega)
      refine ⟨_, rfl, a, n', 4, rfl, w4, by omega, by decide, by decide, fun r u5 n5 r0 r1 hn5 hu5 => ?_⟩
      have K5 : Keep a H1 (upd H4 a u5) := K4.trans Keep.at_
      have g5 : upd H4 a u5 L' = some (.lst ys) := by rw [upd_ne nL]; exact g4
      have w5 := well_upd (H := H4) (a := a) hu5
      generalize upd H4 a u5 = H5 at K5 g5 w5 ⊢
      obtain ⟨j, rfl⟩ := Int.eq_ofNat_of_zero_le r0
      have hj : j < ys.length := by omega
      have ej : ys[j]? = some ys[j] := List.getElem?_eq_getElem hj
      have fj := hys _ (List.getElem_mem hj)
      generalize ys[j] = y at ej fj
      have aj : atI ys (j : Int) = some y := atI_nat ej
      have fin : ∀ num : V, NumV num → tSeq (tAsg (tCall (sp__law_one K) [] E0 (tCons (tVar 0) (tCons (tLst (tCons (tOp rAddM (tVar 5) (tC (.int 1))) (tCons (tOp rSubM (tVar 5) (tC (.int 1))) (tCons (tOp rAddM (tVar 5) (tCall (sp__law_draw K) [] E0 (tCons (tVar 0) (tCons (tC (.int 9)) tNil)))) (tCons (tUn (rU fun i => .int (-i)) (tC (.int 1))) (tCons (tC .non) (tCons (tC (.bl true)) (tCons (tC (.str "0")) (tCons (tOp (rI CPow fun i j => .int (i ^ j.toNat)) (tC (.int 10)) (tC (.int 20))) tNil))))))))) tNil))) (gName 6)) (tAsg (tOp rCat (tOp rCat (tSl (rSlL K) (tVar 2) tNoPart (tPart (tVar 4))) (tLst (tCons (tVar 6) tNil))) (tSl (rSlL K) (tVar 2) (tPart (tOp (rI0 fun i j => .int (i + j)) (tVar 4) (tC (.int 1)))) tNoPart)) (gName 2))
          { nx := fun σ H' => ∃ (L' : Addr) (ys : List V) (n' : Nat) (v3 v4 v5 v6 : Option V), σ = [some (.ref a), some (.ref f), some (.ref L'), v3, v4, v5, v6] ∧ Keep a H1 H' ∧ WellAt H' a n' ∧ n' ≤ n2 + 3 * (i + 1) ∧ H' L' = some (.lst ys) ∧ ys.length = 4 ∧ ∀ y ∈ ys, flat y ∧ okS y, rt := Q }
          [some (.ref a), some (.ref f), some (.ref L'), some (.int (0 + (i : Int))), some (.int (j : Int)), some num, v6] H5 := by
        intro num hnum
        refine ⟨_, rfl, _, rfl, addM hnum fun z1 => ⟨_, rfl, subM hnum fun z2 => ⟨_, rfl, _, rfl, a, n5, 9, rfl, w5, by omega, by decide, by decide, fun d u6 n6 d0 d1 hn6 hu6 => addM hnum fun z3 => ⟨_, rfl, _, _, rfl, rfl, ⟨by decide, by decide, by decide⟩, smallN (by show 8 ≤ 1000; decide), fun l6 e6 => ?_⟩⟩⟩⟩
        have K6 : Keep a H1 (upd H5 a u6) := K5.trans Keep.at_
        have g6 : upd H5 a u6 L' = some (.lst ys) := by rw [upd_ne nL]; exact g5
        have w6 := well_upd (H := H5) (a := a) hu6
        generalize upd H5 a u6 = H6 at K6 g6 w6 e6 ⊢
        have K7 := K6.trans (Keep.new (u := .lst [.int z1, .int z2, .int z3, .int (-1), .non, .bl true, .str "0", .int (10 ^ (20 : Int).toNat)]) e6)
        have g7 := Same.new (u := .lst [.int z1, .int z2, .int z3, .int (-1), .non, .bl true, .str "0", .int (10 ^ (20 : Int).toNat)]) e6 _ _ g6
        have w7 := well_new (u := .lst [.int z1, .int z2, .int z3, .int (-1), .non, .bl true, .str "0", .int (10 ^ (20 : Int).toNat)]) w6 e6
        have i7 : (upd H6 l6 (.lst [.int z1, .int z2, .int z3, .int (-1), .non, .bl true, .str "0", .int (10 ^ (20 : Int).toNat)])) l6 = _ := upd_same
        have n7 : l6 ≠ a := well_ne3 w6 e6
        refine ⟨a, l6, n6, _, rfl, w7, by omega, i7, n7, (by show 0 < 8; decide), (by show 8 ≤ 1000; decide), fun y7 u8 n8 hy7 hn8 hu8 => ?_⟩
        have fy : flat y7 ∧ okS y7 := by
          simp only [List.mem_cons, List.mem_nil_iff, or_false] at hy7
          rcases hy7 with rfl | rfl | rfl | rfl | rfl | rfl | rfl | rfl
          all_goals first | exact ⟨True.intro, True.intro⟩ | exact ⟨True.intro, by show PyData.strOk _ = true; decide +kernel⟩
        have K8 := K7.trans (Keep.at_ (a := a) (u := u8))
        have g8 := Keep.at_ (a := a) (u := u8) _ _ nL g7
        have w8 := well_upd (H := upd H6 l6 (.lst [.int z1, .int z2, .int z3, .int (-1), .non, .bl true, .str "0", .int (10 ^ (20 : Int).toNat)])) (a := a) hu8
        generalize upd (upd H6 l6 (.lst [.int z1, .int z2, .int z3, .int (-1), .non, .bl true, .str "0", .int (10 ^ (20 : Int).toNat)])) a u8 = H8 at K8 g8 w8 ⊢
        obtain ⟨c1, c2⟩ := cut_len hy4 (r := (j : Int)) (by omega) (by omega) y7
        refine ⟨_, rfl, _, rfl, _, rfl, L', ys, rfl, SqL.of g8, fun p1 q1 => ?_⟩
        have S9 := Same.new (u := .lst (cutV ys none (some (j : Int)))) q1
        have g9 : (upd H8 p1 (.lst (cutV ys none (some (j : Int))))) p1 = _ := upd_same
        generalize upd H8 p1 (.lst (cutV ys none (some (j : Int)))) = H9 at S9 g9 ⊢
        refine ⟨_, rfl, smallN (by show 1 ≤ 1000; decide), fun p2 q2 => ?_⟩
        have S10 := Same.new (u := .lst [y7]) q2
        have g10 : (upd H9 p2 (.lst [y7])) p2 = _ := upd_same
        generalize upd H9 p2 (.lst [y7]) = H10 at S10 g10 ⊢
        refine ⟨p1, p2, _, _, rfl, rfl, S10 _ _ g9, g10, smallN (by rw [c1]; show _ + 1 ≤ 1000; omega), fun p3 q3 => ?_⟩
        have S11 := Same.new (u := .lst (cutV ys none (some (j : Int)) ++ [y7])) q3
        have g11 : (upd H10 p3 (.lst (cutV ys none (some (j : Int)) ++ [y7]))) p3 = _ := upd_same
        generalize upd H10 p3 (.lst (cutV ys none (some (j : Int)) ++ [y7])) = H11 at S11 g11 ⊢
        have S811 := S9.trans (S10.trans S11)
        refine ⟨_, rfl, _, rfl, _, _, rfl, rfl, _, rfl, L', ys, rfl, SqL.of (S811 _ _ g8), fun p4 q4 => ?_⟩
        have S12 := Same.new (u := .lst (cutV ys (some ((j : Int) + 1)) none)) q4
        have g12 : (upd H11 p4 (.lst (cutV ys (some ((j : Int) + 1)) none))) p4 = _ := upd_same
        generalize upd H11 p4 (.lst (cutV ys (some ((j : Int) + 1)) none)) = H12 at S12 g12 ⊢
        have hlen : (cutV ys none (some (j : Int)) ++ [y7] ++ cutV ys (some ((j : Int) + 1)) none).length = 4 := by
          rw [List.length_append, List.length_append, c1, c2]; show (j : Int).toNat + 1 + _ = 4; omega
        refine ⟨p3, p4, _, _, rfl, rfl, S12 _ _ g11, g12, smallN (by rw [← List.length_append, hlen]; decide), fun p5 q5 => ?_⟩
        obtain ⟨u12, wa, wo⟩ := w8
        have S812 := S811.trans S12
        refine ⟨p5, _, n8, _, _, _, _, rfl, K8.trans (Keep.of (S812.trans (Same.new q5))), ⟨u12, S812.trans (Same.new q5) _ _ wa, wo⟩, by omega, upd_same, hlen, fun y hy => ?_⟩
        rcases List.mem_append.mp hy with hy | hy
        · rcases List.mem_append.mp hy with hy | hy
          · exact hys y (cut_mem hy)
          · rw [List.mem_singleton.mp hy]; exact fy
        · exact hys y (cut_mem hy)
      refine ⟨_, rfl, _, rfl, L', ys, _, y, rfl, rfl, SqL.of g5, aj, y, .ty "int", _, _, _, rfl, .ty "int", flat_ty fj.1, kit_int fj.1, _, rfl, ?_⟩
      cases y with
      | int z => exact iteT ⟨_, rfl, _, rfl, L', ys, _, _, rfl, rfl, SqL.of g5, aj, fin _ (.inl ⟨z, rfl⟩)⟩
      | bl b => exact iteT ⟨_, rfl, _, rfl, L', ys, _, _, rfl, rfl, SqL.of g5, aj, fin _ (.inr ⟨b, rfl⟩)⟩
      | non => exact iteF (fin _ (.inl ⟨0, rfl⟩))
      | str z => exact iteF (fin _ (.inl ⟨0, rfl⟩))
      | byt _ => exact fj.1.elim
      | flt _ => exact fj.1.elim
      | ref _ => exact fj.1.elim
      | ty _ => exact fj.1.elim
    · rintro σ H4 ⟨L', ys, n', v3, v4, v5, v6, rfl, K4, w4, hn4, g4, hy4, hys⟩
      refine ⟨_, rfl, L', ys, rfl, .inl ⟨SqL.of g4, fun p hp => ?_⟩⟩
      have hc : (1 + c).toNat ≤ 2 := by omega
      exact k _ _ n' (K1.trans (K4.trans (Keep.new hp))) (well_new w4 hp) (by omega) (any_tup upd_same fun _ => hys)

def sp__law_exists (K : PySem.W.Frag) : Sp := fun vs H Q _ => ∃ (l t s : Int), vs = [.int l, .int t, .int s] ∧ 1 ≤ l ∧ l ≤ 999 ∧ 1 ≤ t ∧ t ≤ 999 ∧ 0 ≤ s ∧ s ≤ 1000 ∧ Q (.bl (decide (t < l + s))) H
theorem ok__law_exists {P : Program} {w : World} {K : PySem.W.Frag} {mg : Str → Option Value} {base : Heap} {fd : FuncData} (T : Txt K mg) (F : FnP K "_law_exists" s__law_exists [] fd) : FnOk P w K mg base CX0 1 (He.ga K "_law_exists") fd ps__law_exists (sp__law_exists K) := by
  refine F.ok sc__law_exists (fun vs H Q E h => ?len) (fun cdv A outer s H vs Q E hr h => ?body)
  case len => obtain ⟨l, t, s, rfl, h1, h2, h3, h4, h5, h6, k⟩ := h; rfl
  case body =>
  obtain ⟨l, t, s, rfl, h1, h2, h3, h4, h5, h6, k⟩ := h
  have hu := hu_of hr
  refine ⟨_, PSs.nox (pss_cons (ps_for PassesOwn.never rfl (pi_range1 rfl T.n_range (pa_cons (pv 0) pa_nil)) (pg_name (i := 3) sc__law_exists.nd rfl (Or.inl rfl))
      (pss_one (ps_for PassesOwn.never rfl (pi_range2 (by rfl) T.n_range (pa_cons (pe_callB (call_max2 rfl) (by rfl) T.n_max (by decide +kernel) (pa_cons pe_int (pa_cons (pe_op op_sub (pv 3) (pv 2)) pa_nil))) (pa_cons (pe_op op_add (pe_op op_add (pv 3) (pv 2)) pe_int) pa_nil))) (pg_name (i := 4) sc__law_exists.nd rfl (Or.inl rfl))
          (pss_one (ps_if (pt_cmpR op_ge (pv 4) (pv 1) (nomark _)) (pss_one (ps_ret pe_bl)) pss_nil)))))
    (pss_one (ps_ret pe_bl))), ?_⟩
  refine ⟨_, rfl, _, rfl, by omega, by omega, for_range (lo := 0) (n := l.toNat) (fun i σ H' => ∃ v3 v4 : Option V, σ = [some (.int l), some (.int t), some (.int s), v3, v4] ∧ H' = H ∧ (0 < i → (i : Int) - 1 + s < t)) ⟨none, none, rfl, rfl, fun z => absurd z (by decide)⟩ ?_ ?_⟩
  · rintro i σ H' hi ⟨v3, v4, rfl, rfl, hi2⟩
    refine ⟨_, rfl, _, rfl, _, _, rfl, rfl, _, _, rfl, _, rfl, _, rfl, _, _, rfl, rfl, _, _, rfl, rfl, _, _, rfl, ⟨by split <;> omega, by split <;> omega, by omega, by omega⟩, ?_⟩
    refine for_range (lo := _) (n := _) (fun j σ H'' => ∃ v4 : Option V, σ = [some (.int l), some (.int t), some (.int s), some (.int (0 + (i : Int))), v4] ∧ H'' = H' ∧ (0 < j → (if 0 + (i : Int) - s > 0 then 0 + (i : Int) - s else 0) + (j : Int) - 1 < t)) ⟨_, rfl, rfl, fun z => absurd z (by decide)⟩ ?_ ?_
    · rintro j σ H'' hj ⟨v4, rfl, rfl, hj2⟩
      refine ⟨_, rfl, _, rfl, _, _, rfl, rfl, _, rfl, ?_⟩
      refine ite2 (fun c => ?_) (fun c => ?_)
      · have c := of_decide_eq_true c
        have e : decide (t < l + s) = true := decide_eq_true (by split at c <;> split at hj <;> omega)
        rw [e] at k
        exact k
      · have c := of_decide_eq_false (Bool.eq_false_iff.mpr c)
        exact ⟨_, rfl, rfl, fun _ => by omega⟩
    · rintro σ H'' ⟨v4, rfl, rfl, hj2⟩
      exact ⟨_, _, rfl, rfl, fun _ => by split at hj2 <;> omega⟩
  · rintro σ H' ⟨v3, v4, rfl, rfl, hi2⟩
    have e : decide (t < l + s) = false := decide_eq_false (by omega)
    rw [e] at k
    exact k
theorem show_four {l t s : Int} (h1 : 1 ≤ l) (h3 : 1 ≤ t) (h5 : 0 ≤ s) (h : t < l + s) : showB l t s (four t s) = true := by
  unfold four showB
  rw [Bool.and_eq_true]
  refine ⟨decide_eq_true ?_, decide_eq_true ?_⟩ <;> split <;> omega

theorem any_four {a : Addr} {l t s : Int} {H : Hp} {v : V} (h : FourV l t s H v) : AnyRun a H v := by
  rcases h with ⟨_, p, rfl, hp⟩ | ⟨_, rfl⟩
  · refine any_tup hp fun _ x hx => ?_
    unfold four at hx
    simp only [List.mem_cons, List.mem_nil_iff, or_false] at hx
    rcases hx with rfl | rfl | rfl | rfl <;> exact ⟨True.intro, True.intro⟩
  · exact any_flat True.intro
theorem four_same {l t s : Int} {H H' : Hp} {v : V} (x : Same H H') (h : FourV l t s H v) : FourV l t s H' v := by
  rcases h with ⟨h, p, rfl, hp⟩ | h
  · exact .inl ⟨h, p, rfl, x _ _ hp⟩
  · exact .inr h
theorem four_keep {a : Addr} {n : Nat} {l t s : Int} {H H' : Hp} {v : V} (w : WellAt H a n) (x : Keep a H H') (h : FourV l t s H v) : FourV l t s H' v := by
  rcases h with ⟨h, p, rfl, hp⟩ | h
  · exact .inl ⟨h, p, rfl, x _ _ (well_ne w hp fun _ z => by cases z) hp⟩
  · exact .inr h
theorem run_same {a : Addr} {l t s : Int} {H H' : Hp} {v : V} {b : Bool} (x : Same H H') (r : Run a l t s H v b) : Run a l t s H' v b := by
  cases r with
  | tup hh f => exact .tup (x _ _ hh) f
  | lst hh hl => exact .lst (x _ _ hh) hl
  | dK hh => exact .dK (x _ _ hh)
  | flt hh => exact .flt hh
def sp__law_right (K : PySem.W.Frag) : Sp := fun vs H Q _ => ∃ (a : Addr) (n : Nat) (l t s : Int), vs = [.ref a, .int l, .int t, .int s] ∧ WellAt H a n ∧ n < 800000 ∧ 1 ≤ l ∧ l ≤ 999 ∧ 1 ≤ t ∧ t ≤ 999 ∧ 0 ≤ s ∧
  ∀ (H' : Hp) (n' : Nat), Keep a H H' → WellAt H' a n' → n' ≤ n + 200 → Q (.bl true) H'
theorem ok__law_right {P : Program} {w : World} {K : PySem.W.Frag} {mg : Str → Option Value} {base : Heap} {fd : FuncData} (T : Txt K mg) (F : FnP K "_law_right" s__law_right [] fd) : FnOk P w K mg base CX0 5 (He.ga K "_law_right") fd ps__law_right (sp__law_right K) := by
  obtain ⟨fd_clash, F_clash⟩ := T.d_clash
  have G_clash := ok_clash (P := P) (w := w) (base := base) T F_clash
  have k_clash := F_clash.kp
  have b_clash := bi_clash F_clash
  obtain ⟨fd__law_bent, F__law_bent⟩ := T.d__law_bent
  have G__law_bent := ok__law_bent (P := P) (w := w) (base := base) T F__law_bent
  have k__law_bent := F__law_bent.kp
  have b__law_bent := bi__law_bent F__law_bent
  obtain ⟨fd_shows_clash, F_shows_clash⟩ := T.d_shows_clash
  have G_shows_clash := ok_shows_clash (P := P) (w := w) (base := base) T F_shows_clash
  have k_shows_clash := F_shows_clash.kp
  have b_shows_clash := bi_shows_clash F_shows_clash
  obtain ⟨fd__law_shows, F__law_shows⟩ := T.d__law_shows
  have G__law_shows := ok__law_shows (P := P) (w := w) (base := base) T F__law_shows
  have k__law_shows := F__law_shows.kp
  have b__law_shows := bi__law_shows F__law_shows
  refine F.ok sc__law_right (fun vs H Q E h => ?len) (fun cdv A outer s H vs Q E hr h => ?body)
  case len => obtain ⟨a, n, l, t, s, rfl, hw, hn, h1, h2, h3, h4, h5, k⟩ := h; rfl
  case body =>
  obtain ⟨a, n, l, t, s, rfl, hw, hn, h1, h2, h3, h4, h5, k⟩ := h
  have hu := hu_of hr
  refine ⟨_, PSs.nox (pss_cons (ps_set (i := 4) sc__law_right.nd rfl (Or.inl rfl) (pe_call G_clash (hr.mono (by decide)) rfl T.g_clash k_clash b_clash .nil pass0 (pa_cons (pv 1) (pa_cons (pv 2) (pa_cons (pv 3) pa_nil)))))
    (pss_cons (ps_if (pt_cmpR op_ne (pe_cmpR op_isN (pv 4) pe_non (nomark _)) (pe_cmpR op_ge (pv 2) (pe_op op_add (pv 1) (pv 3)) (nomark _)) (nomark _)) (pss_one (ps_ret pe_bl)) pss_nil)
    (pss_cons (ps_set (i := 5) sc__law_right.nd rfl (Or.inr rfl) (pe_tup (pa_cons pe_int (pa_cons pe_int (pa_cons (pe_op op_sub (pv 1) pe_int) (pa_cons (pe_op op_add (pe_op op_sub (pv 1) pe_int) (pv 3)) pa_nil))))))
    (pss_cons (ps_for PassesOwn.never rfl (pi_list (pe_op op_cat (pe_lst (pa_cons (pv 5) (pa_cons (pe_tup (pa_cons pe_int (pa_cons pe_int (pa_cons (pe_op op_add pe_int (pv 1)) (pa_cons (pe_op op_add pe_int (pv 2)) pa_nil))))) (pa_cons (pv 4) pa_nil)))) (pe_lc (own := [("_law_turn", 7)]) rfl sc__law_right.nd (pi_range1 rfl T.n_range (pa_cons pe_int pa_nil)) (blkOk_by (own := [("_law_turn", 7)]) (N := N__law_right) (sc := defScope s__law_right) (by decide +kernel)) (fun _ _ _ _ _ => (pg_name (i := 7) sc__law_right.nd rfl (Or.inl rfl))) (fun _ _ _ _ _ => pts_nil) (fun _ _ _ _ _ => (pe_call G__law_bent (hr.mono (by decide)) rfl T.g__law_bent k__law_bent b__law_bent .nil pass0 (pa_cons (pv 0) (pa_cons (pv 5) pa_nil))))))) (pg_name (i := 6) sc__law_right.nd rfl (Or.inl rfl))
      (pss_one (ps_if (pt_cmpR op_ne (pe_call G_shows_clash (hr.mono (by decide)) rfl T.g_shows_clash k_shows_clash b_shows_clash .nil pass0 (pa_cons (pv 1) (pa_cons (pv 2) (pa_cons (pv 3) (pa_cons (pv 6) pa_nil))))) (pe_call G__law_shows (hr.mono (by decide)) rfl T.g__law_shows k__law_shows b__law_shows .nil pass0 (pa_cons (pv 1) (pa_cons (pv 2) (pa_cons (pv 3) (pa_cons (pv 6) pa_nil))))) (nomark _)) (pss_one (ps_ret pe_bl)) pss_nil)))
    (pss_cons (ps_if (pt_cmpR op_isN (pv 4) pe_non (nomark _)) (pss_one (ps_ret pe_bl)) pss_nil)
    (pss_cons (ps_for PassesOwn.never rfl (pi_range1 rfl T.n_range (pa_cons pe_int pa_nil)) (pg_name (i := 7) sc__law_right.nd rfl (Or.inl rfl))
      (pss_cons (ps_set (i := 6) sc__law_right.nd rfl (Or.inl rfl) (pe_call G__law_bent (hr.mono (by decide)) rfl T.g__law_bent k__law_bent b__law_bent .nil pass0 (pa_cons (pv 0) (pa_cons (pv 4) pa_nil))))
        (pss_one (ps_if (pt_cmpR op_ne (pe_call G_shows_clash (hr.mono (by decide)) rfl T.g_shows_clash k_shows_clash b_shows_clash .nil pass0 (pa_cons (pv 1) (pa_cons (pv 2) (pa_cons (pv 3) (pa_cons (pv 6) pa_nil))))) (pe_call G__law_shows (hr.mono (by decide)) rfl T.g__law_shows k__law_shows b__law_shows .nil pass0 (pa_cons (pv 1) (pa_cons (pv 2) (pa_cons (pv 3) (pa_cons (pv 6) pa_nil))))) (nomark _)) (pss_one (ps_ret pe_bl)) pss_nil))))
    (pss_one (ps_ret (pe_and (pe_cmpR op_isBl (pe_call G_shows_clash (hr.mono (by decide)) rfl T.g_shows_clash k_shows_clash b_shows_clash .nil pass0 (pa_cons (pv 1) (pa_cons (pv 2) (pa_cons (pv 3) (pa_cons (pv 4) pa_nil))))) pe_bl (nomark _)) (pe_one (pe_cmpR (op_eqD hr.units) (pe_call G_clash (hr.mono (by decide)) rfl T.g_clash k_clash b_clash .nil pass0 (pa_cons (pv 1) (pa_cons (pv 2) (pa_cons (pv 3) pa_nil)))) (pv 4) (nomark _)))))))))))), ?_⟩
  refine ⟨_, rfl, _, rfl, _, rfl, l, t, s, rfl, h1, h2, h3, h4, h5, fun v4 H1 S1 F4 => ?_⟩
  have hw1 : WellAt H1 a n := by obtain ⟨u, hu, o⟩ := hw; exact ⟨u, S1 _ _ hu, o⟩
  refine ⟨_, rfl, rfl, _, rfl, _, rfl, _, rfl, _, _, rfl, rfl, _, _, rfl, rfl, rfl, _, rfl, ?_⟩
  have e1 : (!decide (V.bl (decide (v4 = V.non)) = V.bl (decide (l + s ≤ t)))) = false := by
    rcases F4 with ⟨hlt, p, rfl, _⟩ | ⟨hge, rfl⟩
    · rw [decide_eq_false (show ¬ V.ref p = V.non from fun z => by cases z), decide_eq_false (show ¬ l + s ≤ t by omega)]; rfl
    · rw [decide_eq_true (show V.non = V.non from rfl), decide_eq_true (show l + s ≤ t by omega)]; rfl
  rw [e1]
  refine iteF ?_
  refine ⟨_, rfl, _, _, rfl, rfl, _, rfl, _, _, rfl, rfl, _, rfl, _, _, rfl, rfl, smallN (by show 4 ≤ 1000; decide), fun p5 q5 => ?_⟩
  have S2 := Same.new (u := .tup [.int 0, .int 0, .int (l - 1), .int (l - 1 + s)]) q5
  have g5 : (upd H1 p5 (.tup [.int 0, .int 0, .int (l - 1), .int (l - 1 + s)])) p5 = _ := upd_same
  have w2 := well_new (u := .tup [.int 0, .int 0, .int (l - 1), .int (l - 1 + s)]) hw1 q5
  have F2 := four_same S2 F4
  have K2 : Keep a H _ := Keep.of (S1.trans S2)
  generalize upd H1 p5 (.tup [.int 0, .int 0, .int (l - 1), .int (l - 1 + s)]) = H2 at S2 g5 w2 F2 K2 ⊢
  have n5 : p5 ≠ a := well_ne w2 g5 fun _ z => by cases z
  refine ⟨_, rfl, _, rfl, _, _, rfl, rfl, _, rfl, _, _, rfl, rfl, smallN (by show 4 ≤ 1000; decide), fun p6 q6 => ?_⟩
  have S3 := Same.new (u := .tup [.int 5, .int 5, .int (4 + l), .int (5 + t)]) q6
  have g6 : (upd H2 p6 (.tup [.int 5, .int 5, .int (4 + l), .int (5 + t)])) p6 = _ := upd_same
  generalize upd H2 p6 (.tup [.int 5, .int 5, .int (4 + l), .int (5 + t)]) = H3 at S3 g6 ⊢
  refine ⟨_, rfl, smallN (by show 3 ≤ 1000; decide), fun p7 q7 => ?_⟩
  have S4 := Same.new (u := .lst [.ref p5, .ref p6, v4]) q7
  have g7 : (upd H3 p7 (.lst [.ref p5, .ref p6, v4])) p7 = _ := upd_same
  have w4 := well_new (u := .lst [.ref p5, .ref p6, v4]) (by obtain ⟨u, hu, o⟩ := w2; exact ⟨u, S3 _ _ hu, o⟩ : WellAt H3 a n) q7
  have n7 : p7 ≠ a := by obtain ⟨u, hu, o⟩ := w2; exact (ne_of_none (S3 _ _ hu) q7).symm
  generalize upd H3 p7 (.lst [.ref p5, .ref p6, v4]) = H4 at S4 g7 w4 ⊢
  have K4 : Keep a H H4 := K2.trans (Keep.of (S3.trans S4))
  have g54 := S3.trans S4 _ _ g5
  have fl4 : ∀ {b c d e : Int}, ([V.int b, .int c, .int d, .int e] : List V).length = 4 → ∀ x ∈ [V.int b, .int c, .int d, .int e], flat x ∧ okS x := fun _ x hx => by
    simp only [List.mem_cons, List.mem_nil_iff, or_false] at hx
    rcases hx with rfl | rfl | rfl | rfl <;> exact ⟨True.intro, True.intro⟩
  have r3 : ∀ v ∈ [V.ref p5, .ref p6, v4], AnyRun a H4 v := fun v hv => by
    simp only [List.mem_cons, List.mem_nil_iff, or_false] at hv
    rcases hv with rfl | rfl | rfl
    · exact any_tup g54 fl4
    · exact any_tup (S4 _ _ g6) fl4
    · exact any_same (S3.trans S4) (any_four F2)
  refine ⟨4, rfl, by decide, by decide, fun D hD => ?_⟩
  have nD : D ≠ a := by obtain ⟨u, hu, o⟩ := w4; exact (ne_of_none hu hD).symm
  refine lc_range (lo := 0) (n := 4) (fun i H' => Keep a H4 H' ∧ ∃ (n' : Nat) (zs : List V), WellAt H' a n' ∧ n' ≤ n + 20 * i ∧ H' D = some (.lst zs) ∧ zs.length = i ∧ ∀ z ∈ zs, AnyRun a H' z)
    ⟨Keep.new hD, n, [], well_new w4 hD, by omega, upd_same, rfl, fun z hz => by cases hz⟩ ?_ ?_
  · rintro i H' hi ⟨K', n', zs, w', hn', gD, lz, rz⟩
    refine ⟨rfl, yes_ ?_⟩
    refine iteT ?_
    refine ⟨_, rfl, _, rfl, a, p5, n', _, rfl, w', by omega, K' _ _ n5 g54, ⟨_, _, _, _, rfl⟩, fun v H5 n5' K5 w5 hn5 rv => ?_⟩
    have gD5 := K5 _ _ nD gD
    refine ⟨zs, gD5, small1000 (by omega), fun b o hb hbo => ?_, n5', zs ++ [v], ?_, by omega, upd_same, by rw [List.length_append, lz]; rfl, fun z hz => ?_⟩
    · have nbD : b ≠ D := ne_of_none hbo hD
      rw [upd_ne nbD]
      exact K5 _ _ hb (K' _ _ hb hbo)
    · obtain ⟨u, hu, o⟩ := w5
      exact ⟨u, by rw [upd_ne nD.symm]; exact hu, o⟩
    · rcases List.mem_append.mp hz with hz | hz
      · exact any_grow gD5 (any_keep w' K5 (rz z hz))
      · rw [List.mem_singleton.mp hz]; exact any_grow gD5 rv
  · rintro H5 ⟨K5, n5', zs, w5, hn5, gD, lz, rz⟩
    have g75 := K5 _ _ n7 g7
    refine ⟨p7, D, _, _, rfl, rfl, g75, gD, smallN (by rw [lz]; show 3 + 4 ≤ 1000; decide), fun p8 q8 => ?_⟩
    have S6 := Same.new (u := .lst ([.ref p5, .ref p6, v4] ++ zs)) q8
    have g8 : (upd H5 p8 (.lst ([.ref p5, .ref p6, v4] ++ zs))) p8 = _ := upd_same
    have w6 := well_new (u := .lst ([.ref p5, .ref p6, v4] ++ zs)) w5 q8
    have r6 : ∀ v ∈ [V.ref p5, .ref p6, v4] ++ zs, AnyRun a (upd H5 p8 (.lst ([.ref p5, .ref p6, v4] ++ zs))) v := fun v hv => by
      rcases List.mem_append.mp hv with hv | hv
      · exact any_same S6 (any_keep w4 K5 (r3 v hv))
      · exact any_same S6 (rz v hv)
    have F6 := four_same S6 (four_keep w4 K5 (four_same (S3.trans S4) F2))
    generalize upd H5 p8 (.lst ([.ref p5, .ref p6, v4] ++ zs)) = H6 at S6 g8 w6 r6 F6 ⊢
    have K6 : Keep a H H6 := K4.trans (K5.trans (Keep.of S6))
    refine ⟨p8, rfl, ⟨_, SqL.of g8⟩, for_list (K := K) (a := p8) (xs := [V.ref p5, .ref p6, v4] ++ zs) (fun i σ H' => ∃ v6 v7 : Option V, σ = [some (.ref a), some (.int l), some (.int t), some (.int s), some v4, some (.ref p5), v6, v7] ∧ Same H6 H')
      ⟨_, _, rfl, Same.refl _⟩ (fun i σ H' _ ⟨_, _, _, sm⟩ => SqL.of (sm _ _ g8)) ?_ ?_⟩
    · rintro i x σ H' hx ⟨v6, v7, rfl, sm⟩
      obtain ⟨b, rb⟩ := any_same sm (r6 x (mem_at hx)) l t s
      refine ⟨_, rfl, _, rfl, _, rfl, _, rfl, a, l, t, s, x, b, rfl, h1, h2, h3, h4, h5, rb, fun H7 S7 => ?_⟩
      refine ⟨_, rfl, _, rfl, _, rfl, _, rfl, a, l, t, s, x, b, rfl, h1, h2, h3, h4, h5, run_same S7 rb, fun H8 S8 => ?_⟩
      refine ⟨rfl, _, rfl, ?_⟩
      exact iteNS rfl ⟨_, _, rfl, sm.trans (S7.trans S8)⟩
    · rintro σ H7 ⟨v6, v7, rfl, S7⟩
      have w7 : WellAt H7 a n5' := by obtain ⟨u, hu, o⟩ := w6; exact ⟨u, S7 _ _ hu, o⟩
      have K7 : Keep a H H7 := K6.trans (Keep.of S7)
      refine ⟨_, rfl, rfl, _, rfl, ?_⟩
      rcases four_same S7 F6 with ⟨hlt, p4, rfl, g4⟩ | ⟨hge, rfl⟩
      · rw [decide_eq_false (show ¬ V.ref p4 = V.non from fun z => by cases z)]
        refine iteF ?_
        have n4 : p4 ≠ a := well_ne w7 g4 fun _ z => by cases z
        refine ⟨4, rfl, by decide, by decide, for_range (lo := 0) (n := 4) (fun i σ H' => ∃ (v6 v7 : Option V) (n' : Nat), σ = [some (.ref a), some (.int l), some (.int t), some (.int s), some (.ref p4), some (.ref p5), v6, v7] ∧ Keep a H7 H' ∧ WellAt H' a n' ∧ n' ≤ n5' + 20 * i)
          ⟨_, _, n5', rfl, Keep.refl _ _, w7, by omega⟩ ?_ ?_⟩
        · rintro i σ H' hi ⟨v6, v7, n', rfl, K', w', hn'⟩
          refine ⟨_, rfl, _, rfl, a, p4, n', _, rfl, w', by omega, K' _ _ n4 g4, ⟨_, _, _, _, rfl⟩, fun v H8 n8 K8 w8 hn8 rv => ?_⟩
          obtain ⟨b, rb⟩ := rv l t s
          refine ⟨_, rfl, _, rfl, _, rfl, _, rfl, a, l, t, s, v, b, rfl, h1, h2, h3, h4, h5, rb, fun H9 S9 => ?_⟩
          refine ⟨_, rfl, _, rfl, _, rfl, _, rfl, a, l, t, s, v, b, rfl, h1, h2, h3, h4, h5, run_same S9 rb, fun H10 S10 => ?_⟩
          refine ⟨rfl, _, rfl, ?_⟩
          refine iteNS rfl ⟨_, _, n8, rfl, K'.trans (K8.trans (Keep.of (S9.trans S10))), ?_, by omega⟩
          obtain ⟨u, hu, o⟩ := w8
          exact ⟨u, S9.trans S10 _ _ hu, o⟩
        · rintro σ H8 ⟨v6, v7, n', rfl, K8, w8, hn8⟩
          have g48 := K8 _ _ n4 g4
          have r4 : Run a l t s H8 (.ref p4) (showB l t s (four t s)) := .tup g48 (fun _ x hx => by
            unfold four at hx
            simp only [List.mem_cons, List.mem_nil_iff, or_false] at hx
            rcases hx with rfl | rfl | rfl | rfl <;> exact ⟨True.intro, True.intro⟩)
          rw [show_four h1 h3 h5 hlt] at r4
          refine ⟨_, rfl, _, rfl, _, rfl, _, rfl, a, l, t, s, _, true, rfl, h1, h2, h3, h4, h5, r4, fun H9 S9 => ?_⟩
          refine ⟨_, _, rfl, rfl, _, rfl, ?_⟩
          refine iteT ?_
          refine ⟨_, rfl, _, rfl, _, rfl, l, t, s, rfl, h1, h2, h3, h4, h5, fun v H10 S10 F10 => ?_⟩
          rcases F10 with ⟨_, p9, rfl, g9⟩ | ⟨hge, _⟩
          · have okf : ∀ x ∈ four t s, flat x ∧ okS x := fun x hx => by
              unfold four at hx
              simp only [List.mem_cons, List.mem_nil_iff, or_false] at hx
              rcases hx with rfl | rfl | rfl | rfl <;> exact ⟨True.intro, True.intro⟩
            refine ⟨_, rfl, _, _, .tup (SqT.of g9) (dps_flat fun x hx => (okf x hx).1), .tup (SqT.of (S9.trans S10 _ _ g48)) (dps_flat fun x hx => (okf x hx).1), sh_tup fun x hx => (okf x hx).2, sh_tup fun x hx => (okf x hx).2, ?_⟩
            rw [SeqAt.eqv_refl _ (SeqAt.canLay_of_shaped (sh_tup fun x hx => (okf x hx).2))]
            refine k H10 n' (K7.trans (K8.trans (Keep.of (S9.trans S10)))) ?_ (by omega)
            obtain ⟨u, hu, o⟩ := w8
            exact ⟨u, S9.trans S10 _ _ hu, o⟩
          · exact absurd hlt hge
      · exact iteT (k H7 n5' K7 w7 (by omega))

def sp_law (K : PySem.W.Frag) : Sp := fun vs H Q _ => ∃ (a : Addr) (ns : List Int), vs = [.ref a] ∧ SqL K H a (ns.map V.int) ∧ ns.length ≤ 63 ∧ ∀ H', Q (.bl true) H'
theorem cut_int {ns : List Int} {lo hi : Option Int} {x : V} (h : x ∈ cutV (ns.map V.int) lo hi) : ∃ i, x = .int i := by
  obtain ⟨i, _, rfl⟩ := List.mem_map.mp (cut_mem h)
  exact ⟨i, rfl⟩
theorem well_keep {a : Addr} {n : Nat} {H H' : Hp} (w : WellAt H a n) (x : Same H H') : WellAt H' a n := by
  obtain ⟨u, hu, o⟩ := w; exact ⟨u, x _ _ hu, o⟩
theorem ok_law {P : Program} {w : World} {K : PySem.W.Frag} {mg : Str → Option Value} {base : Heap} {fd : FuncData} (T : Txt K mg) (F : FnP K "law" s_law [] fd) : FnOk P w K mg base CX0 6 (He.ga K "law") fd ps_law (sp_law K) := by
  obtain ⟨fd__law_well, F__law_well⟩ := T.d__law_well
  have G__law_well := ok__law_well (P := P) (w := w) (base := base) T F__law_well
  have k__law_well := F__law_well.kp
  have b__law_well := bi__law_well F__law_well
  obtain ⟨fd_shows_clash, F_shows_clash⟩ := T.d_shows_clash
  have G_shows_clash := ok_shows_clash (P := P) (w := w) (base := base) T F_shows_clash
  have k_shows_clash := F_shows_clash.kp
  have b_shows_clash := bi_shows_clash F_shows_clash
  obtain ⟨fd__law_cell_at, F__law_cell_at⟩ := T.d__law_cell_at
  have G__law_cell_at := ok__law_cell_at (P := P) (w := w) (base := base) T F__law_cell_at
  have k__law_cell_at := F__law_cell_at.kp
  have b__law_cell_at := bi__law_cell_at F__law_cell_at
  obtain ⟨fd__law_one, F__law_one⟩ := T.d__law_one
  have G__law_one := ok__law_one (P := P) (w := w) (base := base) T F__law_one
  have k__law_one := F__law_one.kp
  have b__law_one := bi__law_one F__law_one
  obtain ⟨fd__law_draw, F__law_draw⟩ := T.d__law_draw
  have G__law_draw := ok__law_draw (P := P) (w := w) (base := base) T F__law_draw
  have k__law_draw := F__law_draw.kp
  have b__law_draw := bi__law_draw F__law_draw
  obtain ⟨fd__law_exists, F__law_exists⟩ := T.d__law_exists
  have G__law_exists := ok__law_exists (P := P) (w := w) (base := base) T F__law_exists
  have k__law_exists := F__law_exists.kp
  have b__law_exists := bi__law_exists F__law_exists
  obtain ⟨fd_clash, F_clash⟩ := T.d_clash
  have G_clash := ok_clash (P := P) (w := w) (base := base) T F_clash
  have k_clash := F_clash.kp
  have b_clash := bi_clash F_clash
  obtain ⟨fd__law_right, F__law_right⟩ := T.d__law_right
  have G__law_right := ok__law_right (P := P) (w := w) (base := base) T F__law_right
  have k__law_right := F__law_right.kp
  have b__law_right := bi__law_right F__law_right
  refine F.ok sc_law (fun vs H Q E h => ?len) (fun cdv A outer s H vs Q E hr h => ?body)
  case len => obtain ⟨a, ns, rfl, hS, hlen, k⟩ := h; rfl
  case body =>
  obtain ⟨a, ns, rfl, hS, hlen, k⟩ := h
  have hu := hu_of hr
  refine ⟨_, PSs.nox (pss_cons (ps_for PassesOwn.never rfl (pi_list (pe_op op_cat (pe_lst (pa_cons (pe_call G__law_cell_at (hr.mono (by decide)) rfl T.g__law_cell_at k__law_cell_at b__law_cell_at .nil pass0 (pa_cons (pv 0) (pa_cons pe_int pa_nil))) pa_nil)) (pe_slice sl_list (pv 0) (po_some pe_int) (po_some pe_int)))) (pg_name (i := 1) sc_law.nd rfl (Or.inl rfl))
      (pss_cons (ps_set (i := 2) sc_law.nd rfl (Or.inl rfl) (pe_call G__law_well (hr.mono (by decide)) rfl T.g__law_well k__law_well b__law_well .nil pass0 (pa_cons (pv 1) pa_nil)))
        (pss_cons (ps_for PassesOwn.never rfl (pi_range1 rfl T.n_range (pa_cons pe_int pa_nil)) (pg_name (i := 3) sc_law.nd rfl (Or.inl rfl))
          (pss_cons (ps_set (i := 4) sc_law.nd rfl (Or.inl rfl) (pe_op op_add pe_int (pe_call G__law_draw (hr.mono (by decide)) rfl T.g__law_draw k__law_draw b__law_draw .nil pass0 (pa_cons (pv 2) (pa_cons (pe_call G__law_one (hr.mono (by decide)) rfl T.g__law_one k__law_one b__law_one .nil pass0 (pa_cons (pv 2) (pa_cons (pe_lst (pa_cons pe_int (pa_cons pe_int (pa_cons pe_int pa_nil)))) pa_nil))) pa_nil)))))
            (pss_cons (ps_set (i := 5) sc_law.nd rfl (Or.inl rfl) (pe_call G__law_one (hr.mono (by decide)) rfl T.g__law_one k__law_one b__law_one .nil pass0 (pa_cons (pv 2) (pa_cons (pe_lst (pa_cons pe_int (pa_cons pe_int (pa_cons (pe_call G__law_draw (hr.mono (by decide)) rfl T.g__law_draw k__law_draw b__law_draw .nil pass0 (pa_cons (pv 2) (pa_cons pe_int pa_nil))) pa_nil)))) pa_nil))))
            (pss_cons (ps_set (i := 6) sc_law.nd rfl (Or.inl rfl) (pe_op op_sub (pe_op op_add (pe_op op_add (pv 4) (pv 5)) (pe_call G__law_draw (hr.mono (by decide)) rfl T.g__law_draw k__law_draw b__law_draw .nil pass0 (pa_cons (pv 2) (pa_cons pe_int pa_nil)))) pe_int))
            (pss_cons (ps_set (i := 7) sc_law.nd rfl (Or.inl rfl) (pe_call G__law_one (hr.mono (by decide)) rfl T.g__law_one k__law_one b__law_one .nil pass0 (pa_cons (pv 2) (pa_cons (pe_lst (pa_cons (pe_callB (call_max2 rfl) (by rfl) T.n_max (by decide +kernel) (pa_cons pe_int (pa_cons (pe_callB (call_min2 rfl) (by rfl) T.n_min (by decide +kernel) (pa_cons pe_int (pa_cons (pv 6) pa_nil))) pa_nil))) (pa_cons (pe_op op_add pe_int (pe_call G__law_draw (hr.mono (by decide)) rfl T.g__law_draw k__law_draw b__law_draw .nil pass0 (pa_cons (pv 2) (pa_cons pe_int pa_nil)))) (pa_cons pe_int pa_nil)))) pa_nil))))
            (pss_one (ps_if (pt_not (pt_val (pe_call G__law_right (hr.mono (by decide)) rfl T.g__law_right k__law_right b__law_right .nil pass0 (pa_cons (pv 2) (pa_cons (pv 4) (pa_cons (pv 7) (pa_cons (pv 5) pa_nil))))))) (pss_one (ps_ret pe_bl)) pss_nil)))))))
        (pss_cons (ps_par3 (i := 4) (j := 7) (l := 5) (by rfl) sc_law.nd rfl rfl rfl (by decide) (by decide) (by decide) rfl rfl rfl (pa_cons (pe_op op_add pe_int (pe_call G__law_draw (hr.mono (by decide)) rfl T.g__law_draw k__law_draw b__law_draw .nil pass0 (pa_cons (pv 2) (pa_cons pe_int pa_nil)))) (pa_cons (pe_op op_add pe_int (pe_call G__law_draw (hr.mono (by decide)) rfl T.g__law_draw k__law_draw b__law_draw .nil pass0 (pa_cons (pv 2) (pa_cons pe_int pa_nil)))) (pa_cons (pe_call G__law_draw (hr.mono (by decide)) rfl T.g__law_draw k__law_draw b__law_draw .nil pass0 (pa_cons (pv 2) (pa_cons pe_int pa_nil))) pa_nil))) (by rfl))
        (pss_one (ps_if (pt_cmpR op_ne (pe_cmpR op_notN (pe_call G_clash (hr.mono (by decide)) rfl T.g_clash k_clash b_clash .nil pass0 (pa_cons (pv 4) (pa_cons (pv 7) (pa_cons (pv 5) pa_nil)))) pe_non (nomark _)) (pe_call G__law_exists (hr.mono (by decide)) rfl T.g__law_exists k__law_exists b__law_exists .nil pass0 (pa_cons (pv 4) (pa_cons (pv 7) (pa_cons (pv 5) pa_nil)))) (nomark _)) (pss_one (ps_ret pe_bl)) pss_nil))))))
    (pss_cons (ps_if (pt_cmpR op_notBl (pe_call G_shows_clash (hr.mono (by decide)) rfl T.g_shows_clash k_shows_clash b_shows_clash .nil pass0 (pa_cons pe_int (pa_cons pe_int (pa_cons pe_int (pa_cons (pe_tup (pa_cons pe_int (pa_cons pe_int (pa_cons pe_int (pa_cons pe_int pa_nil))))) pa_nil))))) pe_bl (nomark _)) (pss_one (ps_ret pe_bl)) pss_nil)
    (pss_one (ps_ret (pe_and (pe_cmpR op_isN (pe_call G_clash (hr.mono (by decide)) rfl T.g_clash k_clash b_clash .nil pass0 (pa_cons pe_int (pa_cons pe_int (pa_cons pe_int pa_nil)))) pe_non (nomark _)) (pe_and (pe_cmpR op_notN (pe_call G_clash (hr.mono (by decide)) rfl T.g_clash k_clash b_clash .nil pass0 (pa_cons pe_int (pa_cons pe_int (pa_cons pe_int pa_nil)))) pe_non (nomark _)) (pe_one (pe_cmpR op_notN (pe_call G_clash (hr.mono (by decide)) rfl T.g_clash k_clash b_clash .nil pass0 (pa_cons pe_int (pa_cons pe_int (pa_cons (pe_op op_pow pe_int pe_int) pa_nil)))) pe_non (nomark _))))))))), ?_⟩
  refine ⟨_, rfl, a, ns, rfl, hS, fun i0 => ⟨smallN (by show 1 ≤ 1000; decide), fun p1 q1 => ?_⟩⟩
  have S1 := Same.new (u := .lst [.int i0]) q1
  have g1 : (upd H p1 (.lst [.int i0])) p1 = _ := upd_same
  generalize upd H p1 (.lst [.int i0]) = H1 at S1 g1 ⊢
  refine ⟨_, rfl, _, rfl, _, rfl, a, _, rfl, S1.seq hS, fun p2 q2 => ?_⟩
  have S2 := Same.new (u := .lst (cutV (ns.map V.int) (some 1) (some 4))) q2
  have g2 : (upd H1 p2 (.lst (cutV (ns.map V.int) (some 1) (some 4)))) p2 = _ := upd_same
  generalize upd H1 p2 (.lst (cutV (ns.map V.int) (some 1) (some 4))) = H2 at S2 g2 ⊢
  have hc : (cutV (ns.map V.int) (some 1) (some 4)).length ≤ 63 := Nat.le_trans (cutV_length _ _ _) (by rw [List.length_map]; exact hlen)
  refine ⟨p1, p2, _, _, rfl, rfl, S2 _ _ g1, g2, smallN (by show 1 + _ ≤ 1000; omega), fun p3 q3 => ?_⟩
  have S3 := Same.new (u := .lst ([.int i0] ++ cutV (ns.map V.int) (some 1) (some 4))) q3
  have g3 : (upd H2 p3 (.lst ([.int i0] ++ cutV (ns.map V.int) (some 1) (some 4)))) p3 = _ := upd_same
  generalize upd H2 p3 (.lst ([.int i0] ++ cutV (ns.map V.int) (some 1) (some 4))) = H3 at S3 g3 ⊢
  have hints : ∀ x ∈ [V.int i0] ++ cutV (ns.map V.int) (some 1) (some 4), ∃ i, x = .int i := fun x hx => by
    rcases List.mem_append.mp hx with hx | hx
    · exact ⟨_, List.mem_singleton.mp hx⟩
    · exact cut_int hx
  generalize [V.int i0] ++ cutV (ns.map V.int) (some 1) (some 4) = cells at g3 hints ⊢
  refine ⟨p3, rfl, ⟨_, SqL.of g3⟩, for_list (K := K) (a := p3) (xs := cells) (fun i σ H' => ∃ v1 v2 v3 v4 v5 v6 v7 : Option V, σ = [some (.ref a), v1, v2, v3, v4, v5, v6, v7] ∧ Same H3 H')
    ⟨_, _, _, _, _, _, _, rfl, Same.refl _⟩ (fun i σ H' _ ⟨_, _, _, _, _, _, _, _, sm⟩ => SqL.of (sm _ _ g3)) ?_ ?_⟩
  · rintro i x σ H4 hx ⟨v1, v2, v3, v4, v5, v6, v7, rfl, S4⟩
    obtain ⟨z, rfl⟩ := hints x (mem_at hx)
    refine ⟨_, rfl, z, rfl, fun aw u q5 hu => ?_⟩
    have S5 := S4.trans (Same.new (u := u) q5)
    have nA : ∀ b o, H3 b = some o → b ≠ aw := fun b o hb => ne_of_none (S4 _ _ hb) q5
    have w5 := well_upd (H := H4) (a := aw) hu
    generalize upd H4 aw u = H5 at S5 w5 ⊢
    refine ⟨6, rfl, by decide, by decide, for_range (lo := 0) (n := 6) (fun i σ H' => ∃ (v3 v4 v5 v6 v7 : Option V) (n' : Nat), σ = [some (.ref a), some (.int z), some (.ref aw), v3, v4, v5, v6, v7] ∧ Keep aw H5 H' ∧ WellAt H' aw n' ∧ n' ≤ 300 * i)
      ⟨_, _, _, _, _, 0, rfl, Keep.refl _ _, w5, by omega⟩ ?_ ?_⟩
    · rintro j σ H6 hj ⟨v3, v4, v5, v6, v7, n6, rfl, K6, w6, hn6⟩
      -- span
      refine ⟨_, rfl, _, rfl, smallN (by show 3 ≤ 1000; decide), fun p7 q7 => ?_⟩
      have K7 := K6.trans (Keep.new (u := .lst [.int 3, .int 20, .int 999]) q7)
      have w7 := well_new (u := .lst [.int 3, .int 20, .int 999]) w6 q7
      have g7 : (upd H6 p7 (.lst [.int 3, .int 20, .int 999])) p7 = _ := upd_same
      generalize upd H6 p7 (.lst [.int 3, .int 20, .int 999]) = H7 at K7 w7 g7 ⊢
      refine ⟨aw, p7, n6, _, rfl, w7, by omega, g7, well_ne3 w6 q7, by decide, by decide, fun y u8 n8 hy hn8 hu8 => ?_⟩
      obtain ⟨m, rfl, m0, m1⟩ : ∃ m : Int, y = .int m ∧ 0 < m ∧ m ≤ 999 := by
        simp only [List.mem_cons, List.mem_nil_iff, or_false] at hy
        rcases hy with rfl | rfl | rfl
        · exact ⟨3, rfl, by decide, by decide⟩
        · exact ⟨20, rfl, by decide, by decide⟩
        · exact ⟨999, rfl, by decide, by decide⟩
      have K8 := K7.trans (Keep.at_ (u := u8))
      have w8 := well_upd (H := H7) (a := aw) hu8
      generalize upd H7 aw u8 = H8 at K8 w8 ⊢
      refine ⟨aw, n8, m, rfl, w8, by omega, m0, by omega, fun r u9 n9 r0 r1 hn9 hu9 => ?_⟩
      have K9 := K8.trans (Keep.at_ (u := u9))
      have w9 := well_upd (H := H8) (a := aw) hu9
      generalize upd H8 aw u9 = H9 at K9 w9 ⊢
      refine ⟨_, _, rfl, rfl, ?_⟩
      -- differ
      refine ⟨_, rfl, _, rfl, aw, n9, 30, rfl, w9, by omega, by decide, by decide, fun d ua na d0 d1 hna hua => ?_⟩
      have Ka := K9.trans (Keep.at_ (u := ua))
      have wa := well_upd (H := H9) (a := aw) hua
      generalize upd H9 aw ua = Ha at Ka wa ⊢
      refine ⟨smallN (by show 3 ≤ 1000; decide), fun pb qb => ?_⟩
      have Kb := Ka.trans (Keep.new (u := .lst [.int 0, .int 1, .int d]) qb)
      have wb := well_new (u := .lst [.int 0, .int 1, .int d]) wa qb
      have gb : (upd Ha pb (.lst [.int 0, .int 1, .int d])) pb = _ := upd_same
      generalize upd Ha pb (.lst [.int 0, .int 1, .int d]) = Hb at Kb wb gb ⊢
      refine ⟨aw, pb, na, _, rfl, wb, by omega, gb, well_ne3 wa qb, (by show 0 < 3; decide), (by show 3 ≤ 1000; decide), fun y uc nc hy hnc huc => ?_⟩
      obtain ⟨s, rfl, s0, s1⟩ : ∃ s : Int, y = .int s ∧ 0 ≤ s ∧ s ≤ 30 := by
        simp only [List.mem_cons, List.mem_nil_iff, or_false] at hy
        rcases hy with rfl | rfl | rfl
        · exact ⟨0, rfl, by decide, by decide⟩
        · exact ⟨1, rfl, by decide, by decide⟩
        · exact ⟨d, rfl, d0, by omega⟩
      have Kc := Kb.trans (Keep.at_ (u := uc))
      have wc := well_upd (H := Hb) (a := aw) huc
      generalize upd Hb aw uc = Hc at Kc wc ⊢
      -- near
      refine ⟨_, rfl, _, rfl, _, _, rfl, rfl, _, rfl, aw, nc, 3, rfl, wc, by omega, by decide, by decide, fun e ud nd e0 e1 hnd hud => ?_⟩
      have Kd := Kc.trans (Keep.at_ (u := ud))
      have wd := well_upd (H := Hc) (a := aw) hud
      generalize upd Hc aw ud = Hd at Kd wd ⊢
      refine ⟨_, _, rfl, rfl, _, _, rfl, rfl, ?_⟩
      -- pause
      refine ⟨_, rfl, _, rfl, _, _, rfl, _, _, rfl, _, rfl, aw, nd, 999, rfl, wd, by omega, by decide, by decide, fun f ue ne f0 f1 hne hue => ?_⟩
      have Ke := Kd.trans (Keep.at_ (u := ue))
      have we := well_upd (H := Hd) (a := aw) hue
      generalize upd Hd aw ue = He' at Ke we ⊢
      refine ⟨_, _, rfl, rfl, smallN (by show 3 ≤ 1000; decide), fun pf qf => ?_⟩
      obtain ⟨mx, emx, mx0, mx1⟩ : ∃ mx : Int, mx = (if (if 1 + r + s + e - 1 < 999 then 1 + r + s + e - 1 else 999) > 1 then (if 1 + r + s + e - 1 < 999 then 1 + r + s + e - 1 else 999) else 1) ∧ 1 ≤ mx ∧ mx ≤ 999 := ⟨_, rfl, by split <;> split <;> omega, by split <;> split <;> omega⟩
      rw [← emx]
      have Kf := Ke.trans (Keep.new (u := .lst [.int mx, .int (1 + f), .int 1]) qf)
      have wf := well_new (u := .lst [.int mx, .int (1 + f), .int 1]) we qf
      have gf : (upd He' pf (.lst [.int mx, .int (1 + f), .int 1])) pf = _ := upd_same
      generalize upd He' pf (.lst [.int mx, .int (1 + f), .int 1]) = Hf at Kf wf gf ⊢
      refine ⟨aw, pf, ne, _, rfl, wf, by omega, gf, well_ne3 we qf, (by show 0 < 3; decide), (by show 3 ≤ 1000; decide), fun y ug ng hy hng hug => ?_⟩
      obtain ⟨t, rfl, t0, t1⟩ : ∃ t : Int, y = .int t ∧ 1 ≤ t ∧ t ≤ 999 := by
        simp only [List.mem_cons, List.mem_nil_iff, or_false] at hy
        rcases hy with rfl | rfl | rfl
        · exact ⟨_, rfl, mx0, mx1⟩
        · exact ⟨_, rfl, by omega, by omega⟩
        · exact ⟨1, rfl, by decide, by decide⟩
      have Kg := Kf.trans (Keep.at_ (u := ug))
      have wg := well_upd (H := Hf) (a := aw) hug
      generalize upd Hf aw ug = Hg at Kg wg ⊢
      refine ⟨_, rfl, _, rfl, _, rfl, _, rfl, aw, ng, 1 + r, t, s, rfl, wg, by omega, by omega, by omega, t0, t1, s0, fun Hh nh Kh wh hnh => ?_⟩
      refine ⟨_, rfl, iteF ?_⟩
      exact ⟨_, _, _, _, _, nh, rfl, Kg.trans Kh, wh, by omega⟩
    · rintro σ H6 ⟨v3, v4, v5, v6, v7, n6, rfl, K6, w6, hn6⟩
      refine ⟨_, rfl, aw, n6, 6, rfl, w6, by omega, by decide, by decide, fun r u7 n7 r0 r1 hn7 hu7 => ?_⟩
      have K7 := K6.trans (Keep.at_ (u := u7))
      have w7 := well_upd (H := H6) (a := aw) hu7
      generalize upd H6 aw u7 = H7 at K7 w7 ⊢
      refine ⟨_, _, rfl, rfl, _, rfl, aw, n7, 9, rfl, w7, by omega, by decide, by decide, fun t u8 n8 t0 t1 hn8 hu8 => ?_⟩
      have K8 := K7.trans (Keep.at_ (u := u8))
      have w8 := well_upd (H := H7) (a := aw) hu8
      generalize upd H7 aw u8 = H8 at K8 w8 ⊢
      refine ⟨_, _, rfl, rfl, _, rfl, aw, n8, 5, rfl, w8, by omega, by decide, by decide, fun s u9 n9 s0 s1 hn9 hu9 => ?_⟩
      have K9 := K8.trans (Keep.at_ (u := u9))
      generalize upd H8 aw u9 = H9 at K9 ⊢
      refine ⟨_, _, _, rfl, ?_⟩
      refine ⟨_, rfl, _, rfl, _, rfl, 1 + r, 1 + t, s, rfl, by omega, by omega, by omega, by omega, by omega, fun v Ha Sa Fa => ?_⟩
      refine ⟨rfl, _, rfl, _, rfl, _, rfl, 1 + r, 1 + t, s, rfl, by omega, by omega, by omega, by omega, by omega, by omega, rfl, _, rfl, ?_⟩
      have e : (!decide (V.bl (!decide (v = V.non)) = V.bl (decide (1 + t < 1 + r + s)))) = false := by
        rcases Fa with ⟨hlt, p, rfl, _⟩ | ⟨hge, rfl⟩
        · rw [decide_eq_false (show ¬ V.ref p = V.non from fun z => by cases z), decide_eq_true hlt]; rfl
        · rw [decide_eq_true (show V.non = V.non from rfl), decide_eq_false hge]; rfl
      rw [e]
      refine iteF ?_
      refine ⟨_, _, _, _, _, _, _, rfl, fun b o hb => Sa _ _ (K9 _ _ (nA b o hb) (S5 _ _ hb))⟩
  · rintro σ H4 ⟨v1, v2, v3, v4, v5, v6, v7, rfl, S4⟩
    refine ⟨smallN (by show 4 ≤ 1000; decide), fun p5 q5 => ?_⟩
    have r5 : Run a 5 7 3 (upd H4 p5 (.tup [.int 0, .int 0, .int 4, .int 7])) (.ref p5) true := .tup (xs := [.int 0, .int 0, .int 4, .int 7]) upd_same (fun _ x hx => by
      simp only [List.mem_cons, List.mem_nil_iff, or_false] at hx
      rcases hx with rfl | rfl | rfl | rfl <;> exact ⟨True.intro, True.intro⟩)
    refine ⟨a, 5, 7, 3, _, true, rfl, by decide, by decide, by decide, by decide, by decide, r5, fun H6 S6 => ?_⟩
    refine ⟨_, _, rfl, rfl, _, rfl, iteF ?_⟩
    refine ⟨999, 999, 0, rfl, by decide, by decide, by decide, by decide, by decide, fun v H7 S7 F7 => ⟨rfl, _, rfl, ?_⟩⟩
    rcases F7 with ⟨hlt, _⟩ | ⟨_, rfl⟩
    · exact absurd hlt (by decide)
    refine iteT ⟨10, 9, 0, rfl, by decide, by decide, by decide, by decide, by decide, fun v H8 S8 F8 => ⟨rfl, _, rfl, ?_⟩⟩
    rcases F8 with ⟨_, p8, rfl, _⟩ | ⟨hge, _⟩
    rotate_left
    · exact absurd (by decide) hge
    refine iteT ⟨_, _, rfl, rfl, ⟨by decide, by decide, by decide⟩, 1, 1, _, rfl, by decide, by decide, by decide, by decide, by decide, fun v H9 S9 F9 => ⟨rfl, ?_⟩⟩
    rcases F9 with ⟨_, p9, rfl, _⟩ | ⟨hge, _⟩
    rotate_left
    · exact absurd (by decide) hge
    exact k H9

def dd_is_integer : He.DefD := ⟨("is_integer", none), "is_integer", "is_integer", defArgs s_is_integer, defBody s_is_integer, defScope s_is_integer, [], []⟩
def dd_check_number : He.DefD := ⟨("check_number", none), "check_number", "check_number", defArgs s_check_number, defBody s_check_number, defScope s_check_number, [.non], []⟩
def dd_check_ticks : He.DefD := ⟨("check_ticks", none), "check_ticks", "check_ticks", defArgs s_check_ticks, defBody s_check_ticks, defScope s_check_ticks, [], []⟩
def dd_check_bounds : He.DefD := ⟨("check_bounds", none), "check_bounds", "check_bounds", defArgs s_check_bounds, defBody s_check_bounds, defScope s_check_bounds, [], []⟩
def dd_clash : He.DefD := ⟨("clash", none), "clash", "clash", defArgs s_clash, defBody s_clash, defScope s_clash, [], []⟩
def dd_shows_clash : He.DefD := ⟨("shows_clash", none), "shows_clash", "shows_clash", defArgs s_shows_clash, defBody s_shows_clash, defScope s_shows_clash, [], []⟩
def dd__law_cell_at : He.DefD := ⟨("_law_cell_at", none), "_law_cell_at", "_law_cell_at", defArgs s__law_cell_at, defBody s__law_cell_at, defScope s__law_cell_at, [], []⟩
def dd__law_well : He.DefD := ⟨("_law_well", none), "_law_well", "_law_well", defArgs s__law_well, defBody s__law_well, defScope s__law_well, [], []⟩
def dd__law_draw : He.DefD := ⟨("_law_draw", none), "_law_draw", "_law_draw", defArgs s__law_draw, defBody s__law_draw, defScope s__law_draw, [], []⟩
def dd__law_one : He.DefD := ⟨("_law_one", none), "_law_one", "_law_one", defArgs s__law_one, defBody s__law_one, defScope s__law_one, [], []⟩
def dd__law_is_clock : He.DefD := ⟨("_law_is_clock", none), "_law_is_clock", "_law_is_clock", defArgs s__law_is_clock, defBody s__law_is_clock, defScope s__law_is_clock, [], []⟩
def dd__law_shows : He.DefD := ⟨("_law_shows", none), "_law_shows", "_law_shows", defArgs s__law_shows, defBody s__law_shows, defScope s__law_shows, [], []⟩
def dd__law_bent : He.DefD := ⟨("_law_bent", none), "_law_bent", "_law_bent", defArgs s__law_bent, defBody s__law_bent, defScope s__law_bent, [], []⟩
def dd__law_exists : He.DefD := ⟨("_law_exists", none), "_law_exists", "_law_exists", defArgs s__law_exists, defBody s__law_exists, defScope s__law_exists, [], []⟩
def dd__law_right : He.DefD := ⟨("_law_right", none), "_law_right", "_law_right", defArgs s__law_right, defBody s__law_right, defScope s__law_right, [], []⟩
def dd_law : He.DefD := ⟨("law", none), "law", "law", defArgs s_law, defBody s_law, defScope s_law, [], []⟩
def fn : List He.DefD := [dd_is_integer, dd_check_number, dd_check_ticks, dd_check_bounds, dd_clash, dd_shows_clash, dd__law_cell_at, dd__law_well, dd__law_draw, dd__law_one, dd__law_is_clock, dd__law_shows, dd__law_bent, dd__law_exists, dd__law_right, dd_law]
def fa : List He.Fa := [.glo "is_integer", .glo "check_number", .glo "check_ticks", .glo "check_bounds", .glo "clash", .glo "shows_clash", .glo "_law_cell_at", .glo "_law_well", .glo "_law_draw", .glo "_law_one", .glo "_law_is_clock", .glo "_law_shows", .glo "_law_bent", .glo "_law_exists", .glo "_law_right", .glo "law", .glo "PlaneError", .glo "BadValue", .free "len", .free "int", .free "bool", .free "list", .free "tuple", .free "range", .free "isinstance", .free "max", .free "min", .free "abs", .free "all", .int "MOST_TICKS" 999]
abbrev R : PySem.W.OpenRow := PySem.W.OpenLaw.row PySem.Challenge.rw_controlplane_k56_clocks_of_two_leaders
abbrev hk : PySem.W.Hook := He.hookD 6 fa fn
def ob (s : PySem.W.SharedT) : He.AlD := He.obsDG 6 fa fn (HandSHeadRun.getT s)
theorem ob_eq (s : PySem.W.SharedT) : ob s = hk.obs s.abs := He.obsDG_eq (HandSHeadRun.getT_eq s)
theorem run (w : World) : HandSHeadRun.RunEq R (PySem.W.view R.prog [22]) hk ob 2000 ["__name__", "PlaneError", "BadValue", "is_integer", "check_number", "check_ticks", "check_bounds", "clash", "shows_clash", "_law_cell_at", "_law_well", "_law_draw", "_law_one", "_law_is_clock", "_law_shows", "_law_bent", "_law_exists", "_law_right", "MOST_TICKS"] w := by
  intro os
  kernel_rfl
theorem facts {P : Program} {w : World} {K : PySem.W.Frag} {h : Heap} {mg : Str → Option Value} {f : Addr} (X : K.In h) (G : h.Ns mainGlobals mg) (hfa : mg ("law" : Str) = some (.ref f)) (c : He.SaysD fa fn K) :
    ∃ fd : FuncData, (∀ (s : Shared) (v : Value), BindsTo s fd ⟨[v], []⟩ [("_law_script", v)]) ∧ ∀ base : Heap, K.In base → base.Ns mainGlobals mg → FnOk P w K mg base CX0 6 f fd ["_law_script"] (sp_law K) := by
  have T : Txt K mg := ⟨He.glo_ok X G (c.fact 0 (f := .glo "is_integer") rfl),
    c.def_ 0 (d := dd_is_integer) rfl,
    He.glo_ok X G (c.fact 1 (f := .glo "check_number") rfl),
    c.def_ 1 (d := dd_check_number) rfl,
    He.glo_ok X G (c.fact 2 (f := .glo "check_ticks") rfl),
    c.def_ 2 (d := dd_check_ticks) rfl,
    He.glo_ok X G (c.fact 3 (f := .glo "check_bounds") rfl),
    c.def_ 3 (d := dd_check_bounds) rfl,
    He.glo_ok X G (c.fact 4 (f := .glo "clash") rfl),
    c.def_ 4 (d := dd_clash) rfl,
    He.glo_ok X G (c.fact 5 (f := .glo "shows_clash") rfl),
    c.def_ 5 (d := dd_shows_clash) rfl,
    He.glo_ok X G (c.fact 6 (f := .glo "_law_cell_at") rfl),
    c.def_ 6 (d := dd__law_cell_at) rfl,
    He.glo_ok X G (c.fact 7 (f := .glo "_law_well") rfl),
    c.def_ 7 (d := dd__law_well) rfl,
    He.glo_ok X G (c.fact 8 (f := .glo "_law_draw") rfl),
    c.def_ 8 (d := dd__law_draw) rfl,
    He.glo_ok X G (c.fact 9 (f := .glo "_law_one") rfl),
    c.def_ 9 (d := dd__law_one) rfl,
    He.glo_ok X G (c.fact 10 (f := .glo "_law_is_clock") rfl),
    c.def_ 10 (d := dd__law_is_clock) rfl,
    He.glo_ok X G (c.fact 11 (f := .glo "_law_shows") rfl),
    c.def_ 11 (d := dd__law_shows) rfl,
    He.glo_ok X G (c.fact 12 (f := .glo "_law_bent") rfl),
    c.def_ 12 (d := dd__law_bent) rfl,
    He.glo_ok X G (c.fact 13 (f := .glo "_law_exists") rfl),
    c.def_ 13 (d := dd__law_exists) rfl,
    He.glo_ok X G (c.fact 14 (f := .glo "_law_right") rfl),
    c.def_ 14 (d := dd__law_right) rfl,
    He.glo_ok X G (c.fact 15 (f := .glo "law") rfl),
    c.def_ 15 (d := dd_law) rfl,
    He.glo_ok X G (c.fact 16 (f := .glo "PlaneError") rfl),
    He.glo_ok X G (c.fact 17 (f := .glo "BadValue") rfl),
    He.free_ok X G (c.fact 18 (f := .free "len") rfl),
    He.free_ok X G (c.fact 19 (f := .free "int") rfl),
    He.free_ok X G (c.fact 20 (f := .free "bool") rfl),
    He.free_ok X G (c.fact 21 (f := .free "list") rfl),
    He.free_ok X G (c.fact 22 (f := .free "tuple") rfl),
    He.free_ok X G (c.fact 23 (f := .free "range") rfl),
    He.free_ok X G (c.fact 24 (f := .free "isinstance") rfl),
    He.free_ok X G (c.fact 25 (f := .free "max") rfl),
    He.free_ok X G (c.fact 26 (f := .free "min") rfl),
    He.free_ok X G (c.fact 27 (f := .free "abs") rfl),
    He.free_ok X G (c.fact 28 (f := .free "all") rfl),
    He.int_ok X G (c.fact 29 (f := .int "MOST_TICKS" 999) rfl)⟩
  obtain ⟨fd, F⟩ := T.d_law
  have e := hfa.symm.trans T.g_law
  cases e
  have b := FunD.bindsA (ps := ["_law_script"]) F fun _ _ _ _ _ _ us hl => match us, hl with | [_], _ => rfl
  exact ⟨fd, fun s v => b s [v] rfl, fun base _ _ => ok_law T F⟩
end Lk
open PySem PySem.W PySem.Calls PyProof.Rows
theorem PySem.Challenge.cw_controlplane_k56_clocks_of_two_leaders_holds : PySem.Challenge.rw_controlplane_k56_clocks_of_two_leaders.Holds := by
  w_on; o_law
  refine HandSHeadRun.head_any (r := OpenLaw.row PySem.Challenge.rw_controlplane_k56_clocks_of_two_leaders) (q := view (OpenLaw.row PySem.Challenge.rw_controlplane_k56_clocks_of_two_leaders).prog [22]) (H := Lk.hk) (ob := Lk.ob) (M := 2000) (loose := ["__name__", "PlaneError", "BadValue", "is_integer", "check_number", "check_ticks", "check_bounds", "clash", "shows_clash", "_law_cell_at", "_law_well", "_law_draw", "_law_one", "_law_is_clock", "_law_shows", "_law_bent", "_law_exists", "_law_right", "MOST_TICKS"]) (d := HandSHeadRun.topDef (OpenLaw.row PySem.Challenge.rw_controlplane_k56_clocks_of_two_leaders).prog 22) (kwd := []) Lk.ob_eq
    (by kernel_rfl) (fun s => by kernel_rfl) Lk.run (by kernel_rfl) (by kernel_rfl) (by kernel_rfl) (by rfl) (by first | assumption | decide +kernel) (by decide +kernel) ⟨rfl, rfl, rfl, rfl, rfl, by decide +kernel⟩ ?hw ?hc
  case hw => w_witness2
  case hc =>
    refine L2.walk_ofE (l := PySem.Challenge.rw_controlplane_k56_clocks_of_two_leaders) (n := 63) (k := 6) (x := "_law_script") (CX := L2.CX0) rfl (by decide) (by kernel_rfl) ⟨rfl, by decide, by decide⟩ ?F (fun _ _ _ _ z => z)
    intro w mg fa h Y G hmg0
    obtain ⟨K, KX, c⟩ := Y
    have hmg : mg ("law" : PySem.Str) = some (.ref fa) := by
      have e : (HandSHeadRun.topDef (OpenLaw.row PySem.Challenge.rw_controlplane_k56_clocks_of_two_leaders).prog 22).name = ("law" : PySem.Str) := by kernel_rfl
      rw [← e]
      exact hmg0
    obtain ⟨fd, hb, hF⟩ := Lk.facts (P := (PySem.Challenge.rw_controlplane_k56_clocks_of_two_leaders).prog) (w := w) KX G hmg c
    exact ⟨K, fd, Lk.sp_law K, KX, hb, fun H a ns hl _ hS => ⟨a, ns, rfl, hS, hl, fun _ => rfl⟩, hF⟩

