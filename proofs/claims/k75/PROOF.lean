import PyProof.Rows.All
import Wide.All
import OpenK.AllK
import Wide.FinOn
import KE.KStateDown
import Lean
import HandS.ForMost
import HandS.Flow
import HandS.Style
import HandS.Wide
import HandS.IsInst
import HandS.TupAny
import HandS.More
import HandS.WordsExc
import HandS.Defaults
import HandS.Lambda
import HandS.Head0
import HandS.Head1
import HandS.Head2
import HandS.HeadEnd
import HandS.HeadHook1
import HandS.HeadHook2
import HandS.Walk
import HandS.TryOnly
import HandS.ExcInit
import HandS.ExcField
import HandS.ExcOwn
import KE.KExcIs
import HandS.HeadHook3
import HandS.HeadHook4
import HandS.HeadWalk
import HandS.EndTab
import PySem.Challenge.RW_controlplane_k75_numbers_of_rollouts_and
set_option Elab.async false
set_option linter.all false
set_option maxRecDepth 100000
set_option maxHeartbeats 4000000
namespace Lk
open PySem PySem.Spec PyProof.Rows L2
def topS (i : Nat) : Stmt := PySem.Challenge.pw_controlplane_k75_numbers_of_rollouts_and.main.body.getD i (.Pass ⟨0, 0, 0, 0⟩)
abbrev s_is_integer : Stmt := topS 8
abbrev N_is_integer : List Str := ["value"]
abbrev ps_is_integer : List Str := ["value"]
theorem sc_is_integer : FnScope N_is_integer ps_is_integer (defScope s_is_integer) := ⟨rfl, rfl, rfl, by decide +kernel, rfl, by decide +kernel, by decide +kernel⟩
abbrev s_check_counts : Stmt := topS 10
abbrev N_check_counts : List Str := ["rows", "why", "value"]
abbrev ps_check_counts : List Str := ["rows"]
theorem sc_check_counts : FnScope N_check_counts ps_check_counts (defScope s_check_counts) := ⟨rfl, rfl, rfl, by decide +kernel, rfl, by decide +kernel, by decide +kernel⟩
abbrev s_spare : Stmt := topS 11
abbrev N_spare : List Str := ["replicas", "down", "ready"]
abbrev ps_spare : List Str := ["replicas", "down", "ready"]
theorem sc_spare : FnScope N_spare ps_spare (defScope s_spare) := ⟨rfl, rfl, rfl, by decide +kernel, rfl, by decide +kernel, by decide +kernel⟩
abbrev s_planned_for : Stmt := topS 12
abbrev N_planned_for : List Str := ["replicas", "surge", "planned", "have"]
abbrev ps_planned_for : List Str := ["replicas", "surge", "planned", "have"]
theorem sc_planned_for : FnScope N_planned_for ps_planned_for (defScope s_planned_for) := ⟨rfl, rfl, rfl, by decide +kernel, rfl, by decide +kernel, by decide +kernel⟩
abbrev s_wanted : Stmt := topS 14
abbrev N_wanted : List Str := ["load", "aim", "low", "high"]
abbrev ps_wanted : List Str := ["load", "aim", "low", "high"]
theorem sc_wanted : FnScope N_wanted ps_wanted (defScope s_wanted) := ⟨rfl, rfl, rfl, by decide +kernel, rfl, by decide +kernel, by decide +kernel⟩
abbrev s__law_cell_at : Stmt := topS 16
abbrev N__law_cell_at : List Str := ["_law_script", "_law_k"]
abbrev ps__law_cell_at : List Str := ["_law_script", "_law_k"]
theorem sc__law_cell_at : FnScope N__law_cell_at ps__law_cell_at (defScope s__law_cell_at) := ⟨rfl, rfl, rfl, by decide +kernel, rfl, by decide +kernel, by decide +kernel⟩
abbrev s__law_source : Stmt := topS 17
abbrev N__law_source : List Str := ["_law_cell"]
abbrev ps__law_source : List Str := ["_law_cell"]
theorem sc__law_source : FnScope N__law_source ps__law_source (defScope s__law_source) := ⟨rfl, rfl, rfl, by decide +kernel, rfl, by decide +kernel, by decide +kernel⟩
abbrev s__law_draw : Stmt := topS 18
abbrev N__law_draw : List Str := ["_law_source_here", "_law_size", "_law_digit", "_law_number_here"]
abbrev ps__law_draw : List Str := ["_law_source_here", "_law_size"]
theorem sc__law_draw : FnScope N__law_draw ps__law_draw (defScope s__law_draw) := ⟨rfl, rfl, rfl, by decide +kernel, rfl, by decide +kernel, by decide +kernel⟩
abbrev s__law_pick : Stmt := topS 19
abbrev N__law_pick : List Str := ["_law_source_here", "_law_items"]
abbrev ps__law_pick : List Str := ["_law_source_here", "_law_items"]
theorem sc__law_pick : FnScope N__law_pick ps__law_pick (defScope s__law_pick) := ⟨rfl, rfl, rfl, by decide +kernel, rfl, by decide +kernel, by decide +kernel⟩
abbrev s__law_refused : Stmt := topS 20
abbrev N__law_refused : List Str := ["_law_call", "e", "_law_marks"]
abbrev ps__law_refused : List Str := ["_law_call"]
theorem sc__law_refused : FnScope N__law_refused ps__law_refused (defScope s__law_refused) := ⟨rfl, rfl, rfl, by decide +kernel, rfl, by decide +kernel, by decide +kernel⟩
abbrev s__law_number : Stmt := topS 21
abbrev N__law_number : List Str := ["_law_source_here"]
abbrev ps__law_number : List Str := ["_law_source_here"]
theorem sc__law_number : FnScope N__law_number ps__law_number (defScope s__law_number) := ⟨rfl, rfl, rfl, by decide +kernel, rfl, by decide +kernel, by decide +kernel⟩
abbrev s__law_right : Stmt := topS 22
abbrev N__law_right : List Str := ["_law_source_here", "_law_load", "_law_aim", "_law_low", "_law_high", "_law_told", "_law_replicas", "_law_down", "_law_ready", "_law_least", "_law_surge", "_law_have", "_law_planned", "_law_given", "_law_room"]
abbrev ps__law_right : List Str := ["_law_source_here"]
theorem sc__law_right : FnScope N__law_right ps__law_right (defScope s__law_right) := ⟨rfl, rfl, rfl, by decide +kernel, rfl, by decide +kernel, by decide +kernel⟩
abbrev s__law_bad_right : Stmt := topS 23
abbrev N__law_bad_right : List Str := ["_law_source_here", "_law_odd", "_law_good", "_law_wide", "_law_at", "_law_some", "_law_due", "_law_k"]
abbrev ps__law_bad_right : List Str := ["_law_source_here"]
theorem sc__law_bad_right : FnScope N__law_bad_right ps__law_bad_right (defScope s__law_bad_right) := ⟨rfl, rfl, rfl, by decide +kernel, rfl, by decide +kernel, by decide +kernel⟩
abbrev s_law : Stmt := topS 24
abbrev N_law : List Str := ["_law_script", "_law_cell", "_law_source_here", "_law_k"]
abbrev ps_law : List Str := ["_law_script"]
theorem sc_law : FnScope N_law ps_law (defScope s_law) := ⟨rfl, rfl, rfl, by decide +kernel, rfl, by decide +kernel, by decide +kernel⟩
abbrev FnP (K : PySem.W.Frag) (x : Str) (st : Stmt) (dvs : List V) (fd : FuncData) : Prop := FunD K x x (defArgs st) (defBody st) (defScope st) dvs [] (He.ga K x) fd
abbrev s_PEinit : Stmt := inClass (topS 1) 0
abbrev N_init : List Str := ["self", "why"]
theorem sc_init : FnScope N_init N_init (defScope s_PEinit) := ⟨rfl, rfl, rfl, by decide +kernel, rfl, by decide +kernel, by decide +kernel⟩
/-! the class at C is an own exception class over ValueError: field by field, each field by a look of its own -/
def lookCls (o : Obj) : Option ClassData := match o.data with | .cls cd => some cd | _ => none
def lookTail (C : Addr) : List Value → Option (List Value)
  | .ref b :: bm => if b = C then some bm else none
  | _ => none
abbrev Slot5 : Type := Option Value × Option Value × Option Value × Option Value × Option Value
def lookSlots (l : List (Option Value)) : Option Slot5 := match l with
  | [k0, k1, k2, k3, some (.builtin n), k5] => if n = "ValueError.__new__" then some (k0, k1, k2, k3, k5) else none
  | _ => none
theorem lookCls_of {o : Obj} {cd : ClassData} (h : lookCls o = some cd) : o.data = .cls cd := by
  unfold lookCls at h; split at h <;> first | (cases h; assumption) | cases h
theorem lookTail_of {C : Addr} : ∀ {l bm : List Value}, lookTail C l = some bm → l = .ref C :: bm := by
  intro l bm h; unfold lookTail at h; split at h
  · split at h <;> first | (subst_vars; cases h; rfl) | cases h
  · cases h
theorem lookSlots_of {l : List (Option Value)} {k : Slot5} (h : lookSlots l = some k) : l = [k.1, k.2.1, k.2.2.1, k.2.2.2.1, some (.builtin "ValueError.__new__"), k.2.2.2.2] := by
  unfold lookSlots at h; split at h
  · split at h <;> first | (subst_vars; cases h; rfl) | cases h
  · cases h
def oexAt (C : Addr) (o : Obj) : Bool := match lookCls o, lookSlots o.slots.toList with
  | some cd, some _ => (match lookTail C cd.mro with | some bm => PySem.HandSPX.refsVE bm | none => false) && (cd.hasDict && (!cd.hasDel && decide (o.cls = .type "type")))
  | _, _ => false
def oexB (K : PySem.W.Frag) (C : Addr) : Bool := (match K.lookup C with | some o => oexAt C o | none => false) && (decide (PySem.W.findIn K (.ref C) "__setattr__" = some (some (.builtin "object.__setattr__"))) && (decide (PySem.W.subIn K (.ref C) (.type "BaseException") = some true) && (decide (PySem.W.typeIn K (.ref C) = some (.type "type")) && PySem.W.keepIn K (.ref C))))
/-- the parts put together again -/
theorem oexAt_of {C : Addr} {o : Obj} (h : oexAt C o = true) : ∃ nm q N bs bm sn sub ab col dd k0 k1 k2 k3 k5, o = excClassObj nm q C N bs bm true sn sub ab col dd k0 k1 k2 k3 k5 "ValueError.__new__" ∧ PySem.HandSPX.refsVE bm = true := by
  unfold oexAt at h
  cases e1 : lookCls o with
  | none => rw [e1] at h; exact Bool.noConfusion h
  | some cd =>
    cases e2 : lookSlots o.slots.toList with
    | none => rw [e1, e2] at h; exact Bool.noConfusion h
    | some k =>
      rw [e1, e2] at h
      have ⟨tail, h⟩ := Bool.and_eq_true_iff.mp h
      have ⟨hasD, h⟩ := Bool.and_eq_true_iff.mp h
      have ⟨noDel, ty⟩ := Bool.and_eq_true_iff.mp h
      cases e3 : lookTail C cd.mro with
      | none => rw [e3] at tail; exact Bool.noConfusion tail
      | some bm =>
        rw [e3] at tail
        have data := lookCls_of e1
        have slots := lookSlots_of e2
        have mro := lookTail_of e3
        have tyE := of_decide_eq_true ty
        clear ty
        have dele : cd.hasDel = false := (Bool.not_eq_true' _).mp noDel
        clear noDel e1 e2 e3 h
        refine ⟨cd.name, cd.qualname, cd.ns, cd.bases, bm, cd.slotNames, cd.subclasses, cd.abstract, cd.collection, o.dict, k.1, k.2.1, k.2.2.1, k.2.2.2.1, k.2.2.2.2, ?_, tail⟩
        obtain ⟨ocls, odict, odata, ⟨osl⟩⟩ := o
        obtain ⟨nm, bs, mr, nsp, qn, hd, sn, sub, ab, col, del⟩ := cd
        dsimp only at data slots mro tyE dele hasD ⊢
        subst data slots mro tyE dele hasD
        rfl
theorem oexB_ok {K : PySem.W.Frag} {C : Addr} (h : oexB K C = true) : OexC K C := by
  unfold oexB at h
  have ⟨at_, h⟩ := Bool.and_eq_true_iff.mp h
  have ⟨sa, h⟩ := Bool.and_eq_true_iff.mp h
  have ⟨exC, h⟩ := Bool.and_eq_true_iff.mp h
  have ⟨tyC, kC⟩ := Bool.and_eq_true_iff.mp h
  cases look : K.lookup C with
  | none => rw [look] at at_; exact Bool.noConfusion at_
  | some o =>
    rw [look] at at_
    have ⟨nm, q, N, bs, bm, sn, sub, ab, col, dd, k0, k1, k2, k3, k5, e, ve⟩ := oexAt_of at_
    exact ⟨⟨nm, q, N, bs, bm, sn, sub, ab, col, dd, k0, k1, k2, k3, k5, e ▸ look, ve⟩, of_decide_eq_true sa, of_decide_eq_true exC, of_decide_eq_true tyC, kC⟩
/-- what isinstance and the fields of a caught error ask of its class -/
def excB (K : PySem.W.Frag) (C : Addr) : Bool := (PySem.W.clsIn K C).isSome && (xfB K C && (decide (PySem.W.findIn K (.ref C) "__class__" = some (some (.builtin "object.__class__"))) &&
  (decide (PySem.W.specialIn K (.builtin "object.__class__") "__get__" = some (some (.builtin "getset_descriptor.__get__"))) && (decide (PySem.W.takesIn K (.builtin "object.__class__") = some true) && decide (PySem.W.mroIn K C (.type "object") = some true)))))
def veiB (K : PySem.W.Frag) : Bool := match PySem.W.findCls K (.type "ValueError") (.type "type") "__init__" with
  | some (.val (.builtin x)) => decide (x = "ValueError.__init__")
  | _ => false
def isB1 (K : PySem.W.Frag) (C : Addr) (v : Value) (b : Bool) : Bool := decide (PySem.W.kitOne K (.ref C) v = some b)
def exB (K : PySem.W.Frag) : Bool := oexB K (He.ga K "BadValue") && (excB K (He.ga K "BadValue") && (veiB K && (decide (PySem.W.findIn K (.ref (He.ga K "BadValue")) "__init__" = some (some (.ref (He.fAd K ("PlaneError", some "__init__"))))) &&
  (decide (PySem.W.typeIn K (.ref (He.fAd K ("PlaneError", some "__init__"))) = some (.type "function")) && (decide (PySem.W.findIn K (.ref (He.ga K "BadValue")) "why" = some none) &&
  (decide (PySem.W.exmOne K (.ref (He.ga K "BadValue")) (.ref (He.ga K "PlaneError")) = some true) && (isB1 K (He.ga K "BadValue") (.ref (He.ga K "BadField")) false && (isB1 K (He.ga K "BadValue") (.ref (He.ga K "BadKey")) false &&
  (isB1 K (He.ga K "BadValue") (.ref (He.ga K "BadKind")) false && (isB1 K (He.ga K "BadValue") (.ref (He.ga K "BadName")) false && (isB1 K (He.ga K "BadValue") (.type "ValueError") true && isB1 K (He.ga K "BadValue") (.ref (He.ga K "BadValue")) true)))))))))))
structure Txt (K : PySem.W.Frag) (mg : Str → Option Value) : Prop where
  g_is_integer : mg "is_integer" = some (.ref (He.ga K "is_integer"))
  d_is_integer : ∃ fd, FnP K "is_integer" s_is_integer [] fd
  g_check_counts : mg "check_counts" = some (.ref (He.ga K "check_counts"))
  d_check_counts : ∃ fd, FnP K "check_counts" s_check_counts [] fd
  g_spare : mg "spare" = some (.ref (He.ga K "spare"))
  d_spare : ∃ fd, FnP K "spare" s_spare [] fd
  g_planned_for : mg "planned_for" = some (.ref (He.ga K "planned_for"))
  d_planned_for : ∃ fd, FnP K "planned_for" s_planned_for [] fd
  g_wanted : mg "wanted" = some (.ref (He.ga K "wanted"))
  d_wanted : ∃ fd, FnP K "wanted" s_wanted [] fd
  g__law_cell_at : mg "_law_cell_at" = some (.ref (He.ga K "_law_cell_at"))
  d__law_cell_at : ∃ fd, FnP K "_law_cell_at" s__law_cell_at [] fd
  g__law_source : mg "_law_source" = some (.ref (He.ga K "_law_source"))
  d__law_source : ∃ fd, FnP K "_law_source" s__law_source [] fd
  g__law_draw : mg "_law_draw" = some (.ref (He.ga K "_law_draw"))
  d__law_draw : ∃ fd, FnP K "_law_draw" s__law_draw [] fd
  g__law_pick : mg "_law_pick" = some (.ref (He.ga K "_law_pick"))
  d__law_pick : ∃ fd, FnP K "_law_pick" s__law_pick [] fd
  g__law_refused : mg "_law_refused" = some (.ref (He.ga K "_law_refused"))
  d__law_refused : ∃ fd, FnP K "_law_refused" s__law_refused [] fd
  g__law_number : mg "_law_number" = some (.ref (He.ga K "_law_number"))
  d__law_number : ∃ fd, FnP K "_law_number" s__law_number [] fd
  g__law_right : mg "_law_right" = some (.ref (He.ga K "_law_right"))
  d__law_right : ∃ fd, FnP K "_law_right" s__law_right [] fd
  g__law_bad_right : mg "_law_bad_right" = some (.ref (He.ga K "_law_bad_right"))
  d__law_bad_right : ∃ fd, FnP K "_law_bad_right" s__law_bad_right [] fd
  g_law : mg "law" = some (.ref (He.ga K "law"))
  d_law : ∃ fd, FnP K "law" s_law [] fd
  g_PlaneError : mg "PlaneError" = some (.ref (He.ga K "PlaneError"))
  g_BadName : mg "BadName" = some (.ref (He.ga K "BadName"))
  g_BadKey : mg "BadKey" = some (.ref (He.ga K "BadKey"))
  g_BadValue : mg "BadValue" = some (.ref (He.ga K "BadValue"))
  g_BadKind : mg "BadKind" = some (.ref (He.ga K "BadKind"))
  g_BadField : mg "BadField" = some (.ref (He.ga K "BadField"))
  n_len : mg "len" = none
  n_int : mg "int" = none
  n_bool : mg "bool" = none
  n_range : mg "range" = none
  n_isinstance : mg "isinstance" = none
  n_max : mg "max" = none
  n_min : mg "min" = none
  n_ValueError : mg "ValueError" = none
  d_PlaneError___init__ : ∃ fd, FunD K "__init__" "PlaneError.__init__" (defArgs s_PEinit) (defBody s_PEinit) (defScope s_PEinit) [.str "invalid"] [] (He.fAd K ("PlaneError", some "__init__")) fd
  ex : exB K = true
theorem bi_is_integer {K : PySem.W.Frag} {fd : FuncData} (F : FnP K "is_integer" s_is_integer [] fd) : Binds K fd ps_is_integer [] := F.bindsN (fun _ _ _ _ _ _ us hl => match us, hl with | [_], _ => rfl)
theorem bi_check_counts {K : PySem.W.Frag} {fd : FuncData} (F : FnP K "check_counts" s_check_counts [] fd) : Binds K fd ps_check_counts [] := F.bindsN (fun _ _ _ _ _ _ us hl => match us, hl with | [_], _ => rfl)
theorem bi_spare {K : PySem.W.Frag} {fd : FuncData} (F : FnP K "spare" s_spare [] fd) : Binds K fd ps_spare [] := F.bindsN (fun _ _ _ _ _ _ us hl => match us, hl with | [_, _, _], _ => rfl)
theorem bi_planned_for {K : PySem.W.Frag} {fd : FuncData} (F : FnP K "planned_for" s_planned_for [] fd) : Binds K fd ps_planned_for [] := F.bindsN (fun _ _ _ _ _ _ us hl => match us, hl with | [_, _, _, _], _ => rfl)
theorem bi_wanted {K : PySem.W.Frag} {fd : FuncData} (F : FnP K "wanted" s_wanted [] fd) : Binds K fd ps_wanted [] := F.bindsN (fun _ _ _ _ _ _ us hl => match us, hl with | [_, _, _, _], _ => rfl)
theorem bi__law_cell_at {K : PySem.W.Frag} {fd : FuncData} (F : FnP K "_law_cell_at" s__law_cell_at [] fd) : Binds K fd ps__law_cell_at [] := F.bindsN (fun _ _ _ _ _ _ us hl => match us, hl with | [_, _], _ => rfl)
theorem bi__law_source {K : PySem.W.Frag} {fd : FuncData} (F : FnP K "_law_source" s__law_source [] fd) : Binds K fd ps__law_source [] := F.bindsN (fun _ _ _ _ _ _ us hl => match us, hl with | [_], _ => rfl)
theorem bi__law_draw {K : PySem.W.Frag} {fd : FuncData} (F : FnP K "_law_draw" s__law_draw [] fd) : Binds K fd ps__law_draw [] := F.bindsN (fun _ _ _ _ _ _ us hl => match us, hl with | [_, _], _ => rfl)
theorem bi__law_pick {K : PySem.W.Frag} {fd : FuncData} (F : FnP K "_law_pick" s__law_pick [] fd) : Binds K fd ps__law_pick [] := F.bindsN (fun _ _ _ _ _ _ us hl => match us, hl with | [_, _], _ => rfl)
theorem bi__law_refused {K : PySem.W.Frag} {fd : FuncData} (F : FnP K "_law_refused" s__law_refused [] fd) : Binds K fd ps__law_refused [] := F.bindsN (fun _ _ _ _ _ _ us hl => match us, hl with | [_], _ => rfl)
theorem bi__law_number {K : PySem.W.Frag} {fd : FuncData} (F : FnP K "_law_number" s__law_number [] fd) : Binds K fd ps__law_number [] := F.bindsN (fun _ _ _ _ _ _ us hl => match us, hl with | [_], _ => rfl)
theorem bi__law_right {K : PySem.W.Frag} {fd : FuncData} (F : FnP K "_law_right" s__law_right [] fd) : Binds K fd ps__law_right [] := F.bindsN (fun _ _ _ _ _ _ us hl => match us, hl with | [_], _ => rfl)
theorem bi__law_bad_right {K : PySem.W.Frag} {fd : FuncData} (F : FnP K "_law_bad_right" s__law_bad_right [] fd) : Binds K fd ps__law_bad_right [] := F.bindsN (fun _ _ _ _ _ _ us hl => match us, hl with | [_], _ => rfl)
theorem bi_law {K : PySem.W.Frag} {fd : FuncData} (F : FnP K "law" s_law [] fd) : Binds K fd ps_law [] := F.bindsN (fun _ _ _ _ _ _ us hl => match us, hl with | [_], _ => rfl)

/-! ### the heap: what a def with a source of draws leaves -/
/-- all that was tracked, but what stands at a, is as it was -/
def Keep (a : Addr) (H H' : Hp) : Prop := ∀ b o, b ≠ a → H b = some o → H' b = some o
theorem Keep.refl (a : Addr) (H : Hp) : Keep a H H := fun _ _ _ h => h
theorem Keep.trans {a : Addr} {H H1 H2 : Hp} (x : Keep a H H1) (y : Keep a H1 H2) : Keep a H H2 := fun b o n h => y b o n (x b o n h)
theorem Keep.of {a : Addr} {H H1 : Hp} (x : Same H H1) : Keep a H H1 := fun b o _ h => x b o h
theorem Keep.at_ {a : Addr} {H : Hp} {u : HO} : Keep a H (upd H a u) := fun b o n h => by rw [upd_ne n]; exact h
theorem Same.new {H : Hp} {p : Addr} {u : HO} (n : H p = none) : Same H (upd H p u) := fun b o h => by rw [upd_ne (ne_of_none h n)]; exact h
theorem Keep.new {a : Addr} {H : Hp} {p : Addr} {u : HO} (n : H p = none) : Keep a H (upd H p u) := Keep.of (Same.new n)
theorem Keep.seqL {K : PySem.W.Frag} {a b : Addr} {H H1 : Hp} {xs : List V} (x : Keep a H H1) (n : b ≠ a) (h : SqL K H b xs) : SqL K H1 b xs := by
  rcases h with (h | ⟨o, h⟩) | h
  · exact .inl (.inl (x _ _ n h))
  · exact .inl (.inr ⟨o, x _ _ n h⟩)
  · exact .inr h
theorem Keep.seqT {K : PySem.W.Frag} {a b : Addr} {H H1 : Hp} {xs : List V} (x : Keep a H H1) (n : b ≠ a) (h : SqT K H b xs) : SqT K H1 b xs := by
  rcases h with (h | ⟨o, h⟩) | h
  · exact .inl (.inl (x _ _ n h))
  · exact .inl (.inr ⟨o, x _ _ n h⟩)
  · exact .inr h
/-- a flat value: None, a bool, an int, a text -/
def flat : V → Prop
  | .non => True
  | .bl _ => True
  | .int _ => True
  | .str _ => True
  | _ => False
def tyNm : V → Value
  | .non => .type "NoneType"
  | .bl _ => .type "bool"
  | .int _ => .type "int"
  | _ => .type "str"
theorem flat_ty {K : PySem.W.Frag} {H : Hp} {x : V} (h : flat x) : TyX K H x (tyNm x) := by
  cases x with
  | non => exact .base .non
  | bl b => exact .base (.bl b)
  | int i => exact .base (.int i)
  | str z => exact .base (.str z)
  | byt _ => exact h.elim
  | flt _ => exact h.elim
  | ref _ => exact h.elim
  | ty _ => exact h.elim
theorem small3 : (3 : Nat) ≤ sizeLine := by rw [sizeLine_eq]; decide
theorem smallN {n : Nat} (h : n ≤ 1000) : n ≤ sizeLine := Nat.le_of_lt (small1000 h)
theorem yes_ {σ : L2.St} {H : Hp} {Q : Bool → Hp → Prop} (h : Q true H) : tYes σ H Q := h
theorem get_take {α : Type} {xs : List α} {i : Nat} {x : α} (h : xs[i]? = some x) : xs.take (i + 1) = xs.take i ++ [x] := by
  rw [List.take_succ, h]; rfl
theorem mem_at {α : Type} {xs : List α} {i : Nat} {x : α} (h : xs[i]? = some x) : x ∈ xs := List.mem_of_getElem? h
theorem lt_at {α : Type} {xs : List α} {i : Nat} {x : α} (h : xs[i]? = some x) : i < xs.length := (List.getElem?_eq_some_iff.mp h).1
/-! ### flat values as data -/
def dOf : V → PyData
  | .bl b => .bool b
  | .int i => .int i
  | .str z => .str z
  | _ => .none
theorem dp_flat {K : PySem.W.Frag} {H : Hp} {x : V} (h : flat x) : Dp K H x (dOf x) := by
  cases x with
  | non => exact .non
  | bl b => exact .bl b
  | int i => exact .int i
  | str z => exact .str z
  | byt _ => exact h.elim
  | flt _ => exact h.elim
  | ref _ => exact h.elim
  | ty _ => exact h.elim
theorem dps_flat {K : PySem.W.Frag} {H : Hp} : ∀ {xs : List V}, (∀ x ∈ xs, flat x) → DpAll K H xs (xs.map dOf)
  | [], _ => .nil
  | x :: xs, h => .cons (dp_flat (h x (List.mem_cons_self ..))) (dps_flat fun y hy => h y (List.mem_cons_of_mem _ hy))
/-- a text of signs that there are -/
def okS : V → Prop
  | .str z => PyData.strOk z = true
  | _ => True
theorem lay_flat {x : V} (h : okS x) : (dOf x).canLay0 = true := by
  cases x with
  | str z => exact (show PyData.canLay0 (.str z) = true by simpa [PyData.canLay0, okS] using h)
  | _ => simp [dOf, PyData.canLay0]
theorem lays_flat : ∀ {xs : List V}, (∀ x ∈ xs, okS x) → PyData.canLayAll0 (xs.map dOf) = true
  | [], _ => by simp [PyData.canLayAll0]
  | x :: xs, h => by simp [PyData.canLayAll0, lay_flat (h x (List.mem_cons_self ..)), lays_flat (xs := xs) fun y hy => h y (List.mem_cons_of_mem _ hy)]
theorem dep_flat (x : V) : (dOf x).depth = 0 := by cases x <;> simp [dOf, PyData.depth]
theorem deps_flat : ∀ xs : List V, PyData.depthAll (xs.map dOf) = 0
  | [] => by simp [PyData.depthAll]
  | x :: xs => by simp [PyData.depthAll, dep_flat x, deps_flat xs]
theorem sh_flat {x : V} (h : okS x) : SeqAt.shaped (dOf x) = true := by simp [SeqAt.shaped, lay_flat h, dep_flat x]
theorem sh_list {xs : List V} (h : ∀ x ∈ xs, okS x) : SeqAt.shaped (.list (xs.map dOf)) = true := by simp [SeqAt.shaped, PyData.canLay0, PyData.depth, lays_flat h, deps_flat xs]
theorem sh_tup {xs : List V} (h : ∀ x ∈ xs, okS x) : SeqAt.shaped (.tuple (xs.map dOf)) = true := by simp [SeqAt.shaped, PyData.canLay0, PyData.depth, lays_flat h, deps_flat xs]
theorem eqv_nil (xs : List V) : PyData.eqv (.list (xs.map dOf)) (.list []) = xs.isEmpty := by
  cases xs <;> simp [PyData.eqv, PyData.eqvAll]
/-- len of a list or a tuple, within a comprehension -/
def rLenK (K : PySem.W.Frag) : List V → Hp → VK → Prop := fun xs H Q => ∃ p ys, xs = [V.ref p] ∧ (SqL K H p ys ∨ SqT K H p ys) ∧ Q (V.int ys.length) H
/-- dict(pairs), within a comprehension -/
def rDictP (K : PySem.W.Frag) : List V → Hp → VK → Prop := fun xs H Q => ∃ (a : Addr) (ps : List Addr) (kvs : List (Key × V)), xs = [.ref a] ∧ SqL K H a (ps.map V.ref) ∧ Paired (fun p kv => SqT K H p [kV kv.1, kv.2]) ps kvs ∧
  ∀ p, H p = none → Q (.ref p) (upd H p (.dK (mergeK [] kvs)))
theorem lay_same {H H' : Hp} {l : Addr} {u : HO} (e : upd H l u = H') (h : H l = none) : Same H H' := e ▸ Same.new h
theorem lay_at {H H' : Hp} {l : Addr} {u : HO} (e : upd H l u = H') : H' l = some u := e ▸ upd_same

/-! ### the source of draws: [digits, a number, a count] -/
def WellO (u : HO) (n : Nat) : Prop := ∃ x y : Int, u = .lst [.int x, .int y, .int (n : Int)] ∧ 0 ≤ y ∧ y < 2147483647
def WellAt (H : Hp) (a : Addr) (n : Nat) : Prop := ∃ u, H a = some u ∧ WellO u n
def sp__law_cell_at (K : PySem.W.Frag) : Sp := fun vs H Q _ => ∃ (a : Addr) (ns : List Int), vs = [.ref a, .int 0] ∧ SqL K H a (ns.map V.int) ∧ ∀ i : Int, Q (.int i) H
theorem ok__law_cell_at {P : Program} {w : World} {K : PySem.W.Frag} {mg : Str → Option Value} {base : Heap} {fd : FuncData} (T : Txt K mg) (F : FnP K "_law_cell_at" s__law_cell_at [] fd) : FnOk P w K mg base CX0 1 (He.ga K "_law_cell_at") fd ps__law_cell_at (sp__law_cell_at K) := by
  refine F.ok sc__law_cell_at (fun vs H Q E h => ?len) (fun cdv A outer s H vs Q E hr h => ?body)
  case len => obtain ⟨a, ns, rfl, hS, k⟩ := h; rfl
  case body =>
  obtain ⟨a, ns, rfl, hS, k⟩ := h
  have hu := hu_of hr
  refine ⟨_, PSs.nox (pss_cons (ps_if (pt_cmpR op_lt (pv 1) (pe_callB call_len_seq (by rfl) T.n_len (by decide +kernel) (pa_cons (pv 0) pa_nil)) (nomark _)) (pss_one (ps_ret (pe_ix ix_list (pv 0) (pv 1) (fun _ _ => rfl)))) pss_nil)
    (pss_one (ps_ret pe_int))), ?_⟩
  refine ⟨_, rfl, _, rfl, a, _, rfl, .inl hS, _, _, rfl, rfl, _, rfl, ?_⟩
  refine ite2 (fun hlt => ?_) (fun _ => k 0)
  cases ns with
  | nil => simp at hlt
  | cons i r => exact ⟨_, rfl, _, rfl, a, _, 0, .int i, rfl, rfl, hS, atI_nat (j := 0) rfl, k i⟩
def sp__law_source (K : PySem.W.Frag) : Sp := fun vs H Q _ => ∃ (i : Int), vs = [.int i] ∧ ∀ (a : Addr) (u : HO), H a = none → WellO u 0 → Q (.ref a) (upd H a u)
theorem mod_lt' (z : Int) {m : Int} (h : 0 < m) : 0 ≤ z % m ∧ z % m < m := ⟨Int.emod_nonneg _ (by omega), Int.emod_lt_of_pos _ h⟩
theorem ok__law_source {P : Program} {w : World} {K : PySem.W.Frag} {mg : Str → Option Value} {base : Heap} {fd : FuncData} (T : Txt K mg) (F : FnP K "_law_source" s__law_source [] fd) : FnOk P w K mg base CX0 1 (He.ga K "_law_source") fd ps__law_source (sp__law_source K) := by
  refine F.ok sc__law_source (fun vs H Q E h => ?len) (fun cdv A outer s H vs Q E hr h => ?body)
  case len => obtain ⟨i, rfl, k⟩ := h; rfl
  case body =>
  obtain ⟨i, rfl, k⟩ := h
  have hu := hu_of hr
  refine ⟨_, PSs.nox (pss_one (ps_ret (pe_lst (pa_cons (pe_op op_mul (pv 0) (pe_callTy call_int1 (by rfl) T.n_int (by decide +kernel) (pa_cons (pe_cmpR op_ge (pv 0) (pe_op op_pow pe_int pe_int) (nomark _)) pa_nil))) (pa_cons (pe_op op_mod (pe_callTy call_int1 (by rfl) T.n_int (by decide +kernel) (pa_cons (pv 0) pa_nil)) pe_int) (pa_cons pe_int pa_nil)))))), ?_⟩
  refine ⟨_, rfl, _, rfl, _, _, rfl, rfl, ⟨by decide, by decide, by decide⟩, _, _, rfl, rfl, .inr ⟨_, rfl, _, _, rfl, rfl, .inr ?_, _, rfl, .inl ⟨_, rfl, _, _, rfl, rfl, (by show (0 : Int) < 2147483647; decide), smallN (by show 3 ≤ 1000; decide), fun p hp => k p _ hp ⟨_, _, rfl, mod_lt' i (by decide)⟩⟩⟩⟩
  split <;> constructor <;> decide
/-- a number from 0 to m - 1; the source goes on -/
def sp__law_draw (K : PySem.W.Frag) : Sp := fun vs H Q _ => ∃ (a : Addr) (n : Nat) (m : Int), vs = [.ref a, .int m] ∧ WellAt H a n ∧ n < 1000000 ∧ 0 < m ∧ m ≤ 1000000000 ∧
  ∀ (r : Int) (u : HO) (n' : Nat), 0 ≤ r → r < m → n' ≤ n + 1 → WellO u n' → Q (.int r) (upd H a u)
theorem natAbs_lt64 {z : Int} (h1 : -(2 ^ 40) < z) (h2 : z < 2 ^ 40) : z.natAbs < 2 ^ 64 := by omega
theorem wdiv {i j : Int} (h : 0 < j) (h2 : j ≤ 2 ^ 32) : CDivW i j := wide_div (b := 40) h (by omega) (by decide) (by decide)
theorem ok__law_draw {P : Program} {w : World} {K : PySem.W.Frag} {mg : Str → Option Value} {base : Heap} {fd : FuncData} (T : Txt K mg) (F : FnP K "_law_draw" s__law_draw [] fd) : FnOk P w K mg base CX0 1 (He.ga K "_law_draw") fd ps__law_draw (sp__law_draw K) := by
  refine F.ok sc__law_draw (fun vs H Q E h => ?len) (fun cdv A outer s H vs Q E hr h => ?body)
  case len => obtain ⟨a, n, m, rfl, ⟨u, hu0, x, y, rfl, y0, y1⟩, hn, hm, hm2, k⟩ := h; rfl
  case body =>
  obtain ⟨a, n, m, rfl, ⟨u, hu0, x, y, rfl, y0, y1⟩, hn, hm, hm2, k⟩ := h
  have hu := hu_of hr
  refine ⟨_, PSs.nox (pss_cons (ps_if (pt_cmpR op_gt (pe_ix ix_list (pv 0) pe_int (fun _ _ => rfl)) pe_int (nomark _)) (pss_cons (ps_set (i := 2) sc__law_draw.nd rfl (Or.inl rfl) (pe_op op_mod (pe_callTy call_int1 (by rfl) T.n_int (by decide +kernel) (pa_cons (pe_ix ix_list (pv 0) pe_int (fun _ _ => rfl)) pa_nil)) (pv 1)))
      (pss_cons (ps_asg (pe_op op_fdivW (pe_ix ix_list (pv 0) pe_int (fun _ _ => rfl)) (pv 1)) (pg_sub (pv 0) pe_int set_list))
      (pss_one (ps_ret (pv 2))))) pss_nil)
    (pss_cons (ps_asg (pe_op op_add (pe_ix ix_list (pv 0) pe_int (fun _ _ => rfl)) pe_int) (pg_sub (pv 0) pe_int set_list))
    (pss_cons (ps_set (i := 3) sc__law_draw.nd rfl (Or.inl rfl) (pe_op op_mod (pe_callTy call_int1 (by rfl) T.n_int (by decide +kernel) (pa_cons (pe_op op_pow (pe_op op_add (pe_op op_add (pe_ix ix_list (pv 0) pe_int (fun _ _ => rfl)) (pe_op op_mul pe_int (pe_ix ix_list (pv 0) pe_int (fun _ _ => rfl)))) pe_int) pe_int) pa_nil)) pe_int))
    (pss_cons (ps_set (i := 3) sc__law_draw.nd rfl (Or.inl rfl) (pe_op op_mod (pe_callTy call_int1 (by rfl) T.n_int (by decide +kernel) (pa_cons (pe_op op_mul (pv 3) (pe_op op_add (pe_op op_add (pe_op op_fdivW (pv 3) pe_int) pe_int) (pe_ix ix_list (pv 0) pe_int (fun _ _ => rfl)))) pa_nil)) pe_int))
    (pss_one (ps_ret (pe_op op_mod (pe_callTy call_int1 (by rfl) T.n_int (by decide +kernel) (pa_cons (pe_op op_fdivW (pe_op op_mod (pe_callTy call_int1 (by rfl) T.n_int (by decide +kernel) (pa_cons (pe_op op_mul (pv 3) (pe_op op_add (pe_op op_fdivW (pv 3) pe_int) pe_int)) pa_nil)) pe_int) pe_int) pa_nil)) (pv 1)))))))), ?_⟩
  have hS : SqL K H a [.int x, .int y, .int (n : Int)] := SqL.of hu0
  refine ⟨_, rfl, a, _, 0, _, rfl, rfl, hS, rfl, _, _, rfl, rfl, _, rfl, ?_⟩
  refine ite2 (fun hx => ?_) (fun hx => ?_)
  · refine ⟨_, rfl, a, _, 0, _, rfl, rfl, hS, rfl, .inl ⟨_, rfl, _, rfl, _, _, rfl, rfl, hm, ?_⟩⟩
    refine ⟨_, rfl, a, _, 0, _, rfl, rfl, hS, rfl, _, rfl, _, _, rfl, rfl, wdiv hm (by omega), _, rfl, a, _, _, 0, rfl, rfl, hu0, rfl, _, rfl, ?_⟩
    exact k _ _ n (mod_lt' x hm).1 (mod_lt' x hm).2 (Nat.le_succ _) ⟨_, _, rfl, y0, y1⟩
  · refine ⟨_, rfl, a, _, 2, _, rfl, rfl, hS, rfl, _, _, rfl, rfl, _, rfl, a, _, _, 2, rfl, rfl, hu0, rfl, ?_⟩
    have hu1 : upd H a (.lst ([.int x, .int y, .int (n : Int)].set 2 (.int ((n : Int) + 1)))) a = some (.lst [.int x, .int y, .int ((n : Int) + 1)]) := upd_same
    have hS1 : SqL K (upd H a (.lst ([.int x, .int y, .int (n : Int)].set 2 (.int ((n : Int) + 1))))) a [.int x, .int y, .int ((n : Int) + 1)] := SqL.of hu1
    refine ⟨_, rfl, a, _, 1, _, rfl, rfl, hS1, rfl, _, rfl, a, _, 2, _, rfl, rfl, hS1, rfl, _, _, rfl, rfl, .inl ⟨by decide, by decide⟩, _, _, rfl, rfl, _, _, rfl, rfl, _, _, rfl, rfl, ⟨by decide, by decide, natAbs_lt64 (by omega) (by omega)⟩, .inl ⟨_, rfl, _, _, rfl, rfl, (by show (0 : Int) < 2147483629; decide), ?_⟩⟩
    have b3 := mod_lt' ((y + 7919 * ((n : Int) + 1) + 1) ^ (5 : Int).toNat) (m := 2147483629) (by decide)
    generalize (y + 7919 * ((n : Int) + 1) + 1) ^ (5 : Int).toNat % 2147483629 = e3 at b3 ⊢
    refine ⟨_, rfl, _, rfl, _, _, rfl, rfl, wdiv (by decide) (by decide), _, _, rfl, rfl, _, rfl, a, _, 2, _, rfl, rfl, hS1, rfl, _, _, rfl, rfl, _, _, rfl, rfl, .inl ⟨by omega, by omega⟩, .inl ⟨_, rfl, _, _, rfl, rfl, (by show (0 : Int) < 2147483587; decide), ?_⟩⟩
    have b4 := mod_lt' (e3 * (e3 / 1009 + 69621 + ((n : Int) + 1))) (m := 2147483587) (by decide)
    generalize e3 * (e3 / 1009 + 69621 + ((n : Int) + 1)) % 2147483587 = e4 at b4 ⊢
    refine ⟨_, rfl, _, rfl, _, _, rfl, rfl, wdiv (by decide) (by decide), _, _, rfl, rfl, _, _, rfl, rfl, .inl ⟨by omega, by omega⟩, .inl ⟨_, rfl, _, _, rfl, rfl, (by show (0 : Int) < 2147483579; decide), _, _, rfl, rfl, wdiv (by decide) (by decide), .inl ⟨_, rfl, _, rfl, _, _, rfl, rfl, hm, ?_⟩⟩⟩
    exact k _ _ (n + 1) (mod_lt' _ hm).1 (mod_lt' _ hm).2 (Nat.le_refl _) ⟨_, _, rfl, y0, y1⟩

/-! ### one of some values -/
theorem well_ne {H : Hp} {a b : Addr} {n : Nat} {o : HO} (h : WellAt H a n) (hb : H b = some o) (ho : ∀ xs, o = .lst xs → xs.length ≠ 3) : b ≠ a := by
  obtain ⟨u, hu, x, y, rfl, _⟩ := h
  exact ne_of hb hu fun z => ho _ z rfl
theorem well_ne3 {H : Hp} {a p : Addr} {n : Nat} (h : WellAt H a n) (hp : H p = none) : p ≠ a := by
  obtain ⟨u, hu, _⟩ := h
  exact fun z => by rw [z, hu] at hp; cases hp
theorem well_upd {H : Hp} {a : Addr} {n : Nat} {u : HO} (h : WellO u n) : WellAt (upd H a u) a n := ⟨u, upd_same, h⟩
theorem well_new {H : Hp} {a p : Addr} {n : Nat} {u : HO} (h : WellAt H a n) (hp : H p = none) : WellAt (upd H p u) a n := by
  obtain ⟨v, hv, w⟩ := h
  exact ⟨v, by rw [upd_ne (ne_of_none hv hp)]; exact hv, w⟩
def sp__law_pick (K : PySem.W.Frag) : Sp := fun vs H Q _ => ∃ (a b : Addr) (n : Nat) (ys : List V), vs = [.ref a, .ref b] ∧ WellAt H a n ∧ n < 1000000 ∧ H b = some (.lst ys) ∧ b ≠ a ∧ 0 < ys.length ∧ ys.length ≤ 1000 ∧
  ∀ (y : V) (u : HO) (n' : Nat), y ∈ ys → n' ≤ n + 1 → WellO u n' → Q y (upd H a u)
theorem ok__law_pick {P : Program} {w : World} {K : PySem.W.Frag} {mg : Str → Option Value} {base : Heap} {fd : FuncData} (T : Txt K mg) (F : FnP K "_law_pick" s__law_pick [] fd) : FnOk P w K mg base CX0 2 (He.ga K "_law_pick") fd ps__law_pick (sp__law_pick K) := by
  obtain ⟨fd__law_draw, F__law_draw⟩ := T.d__law_draw
  have G__law_draw := ok__law_draw (P := P) (w := w) (base := base) T F__law_draw
  have k__law_draw := F__law_draw.kp
  have b__law_draw := bi__law_draw F__law_draw
  refine F.ok sc__law_pick (fun vs H Q E h => ?len) (fun cdv A outer s H vs Q E hr h => ?body)
  case len => obtain ⟨a, b, n, ys, rfl, hw, hn, hb, hne, h0, h1, k⟩ := h; rfl
  case body =>
  obtain ⟨a, b, n, ys, rfl, hw, hn, hb, hne, h0, h1, k⟩ := h
  have hu := hu_of hr
  refine ⟨_, PSs.nox (pss_one (ps_ret (pe_ix ix_list (pv 1) (pe_call G__law_draw (hr.mono (by first | decide | omega)) rfl T.g__law_draw k__law_draw b__law_draw .nil pass0 (pa_cons (pv 0) (pa_cons (pe_callB call_len_seq (by rfl) T.n_len (by decide +kernel) (pa_cons (pv 1) pa_nil)) pa_nil))) (fun _ _ => rfl)))), ?_⟩
  refine ⟨_, rfl, _, rfl, _, rfl, b, ys, rfl, .inl (SqL.of hb), a, n, _, rfl, hw, hn, (by omega), (by omega), fun r u n' r0 r1 hn' hu' => ?_⟩
  have hb' : upd H a u b = some (.lst ys) := by rw [upd_ne hne]; exact hb
  obtain ⟨j, rfl⟩ := Int.eq_ofNat_of_zero_le r0
  have hj : j < ys.length := by omega
  have e : ys[j]? = some ys[j] := List.getElem?_eq_getElem hj
  exact ⟨b, ys, _, ys[j], rfl, rfl, SqL.of hb', atI_nat e, k _ u n' (List.getElem_mem hj) hn' hu'⟩

/-! ### the error -/
abbrev cBV (K : PySem.W.Frag) : Addr := He.ga K "BadValue"
structure ExT (K : PySem.W.Frag) : Prop where
  oex : OexC K (cBV K)
  exc : excB K (cBV K) = true
  vei : PySem.W.findCls K (.type "ValueError") (.type "type") "__init__" = some (.val (.builtin "ValueError.__init__"))
  iC : PySem.W.findIn K (.ref (cBV K)) "__init__" = some (some (.ref (He.fAd K ("PlaneError", some "__init__"))))
  tI : PySem.W.typeIn K (.ref (He.fAd K ("PlaneError", some "__init__"))) = some (.type "function")
  noW : PySem.W.findIn K (.ref (cBV K)) "why" = some none
  exm : PySem.W.exmOne K (.ref (cBV K)) (.ref (He.ga K "PlaneError")) = some true
  i1 : PySem.W.kitOne K (.ref (cBV K)) (.ref (He.ga K "BadField")) = some false
  i2 : PySem.W.kitOne K (.ref (cBV K)) (.ref (He.ga K "BadKey")) = some false
  i3 : PySem.W.kitOne K (.ref (cBV K)) (.ref (He.ga K "BadKind")) = some false
  i4 : PySem.W.kitOne K (.ref (cBV K)) (.ref (He.ga K "BadName")) = some false
  i5 : PySem.W.kitOne K (.ref (cBV K)) (.type "ValueError") = some true
  i6 : PySem.W.kitOne K (.ref (cBV K)) (.ref (cBV K)) = some true
theorem veiB_ok {K : PySem.W.Frag} (h : veiB K = true) : PySem.W.findCls K (.type "ValueError") (.type "type") "__init__" = some (.val (.builtin "ValueError.__init__")) := by
  unfold veiB at h
  split at h
  · rename_i x e
    rw [e, of_decide_eq_true h]
  · cases h
theorem exTxt {K : PySem.W.Frag} {mg : Str → Option Value} (T : Txt K mg) : ExT K := by
  have h := T.ex
  unfold exB at h
  obtain ⟨h1, h⟩ := Bool.and_eq_true_iff.mp h
  obtain ⟨h2, h⟩ := Bool.and_eq_true_iff.mp h
  obtain ⟨h3, h⟩ := Bool.and_eq_true_iff.mp h
  obtain ⟨h4, h⟩ := Bool.and_eq_true_iff.mp h
  obtain ⟨h5, h⟩ := Bool.and_eq_true_iff.mp h
  obtain ⟨h6, h⟩ := Bool.and_eq_true_iff.mp h
  obtain ⟨h7, h⟩ := Bool.and_eq_true_iff.mp h
  obtain ⟨h8, h⟩ := Bool.and_eq_true_iff.mp h
  obtain ⟨h9, h⟩ := Bool.and_eq_true_iff.mp h
  obtain ⟨ha, h⟩ := Bool.and_eq_true_iff.mp h
  obtain ⟨hb, h⟩ := Bool.and_eq_true_iff.mp h
  obtain ⟨hc, hd⟩ := Bool.and_eq_true_iff.mp h
  exact ⟨oexB_ok h1, h2, veiB_ok h3, of_decide_eq_true h4, of_decide_eq_true h5, of_decide_eq_true h6, of_decide_eq_true h7, of_decide_eq_true h8, of_decide_eq_true h9, of_decide_eq_true ha, of_decide_eq_true hb, of_decide_eq_true hc, of_decide_eq_true hd⟩
def sp_init (K : PySem.W.Frag) : Sp := fun vs H Q _ => ∃ (a : Addr) (y : V), vs = [.ref a, y] ∧ H a = some (exo a (cBV K) none) ∧ ∀ dx, H dx = none → dx ≠ a → Q .non (upd (upd H dx (exd dx [("why", y)])) a (exo a (cBV K) (some dx)))
abbrev FnI (K : PySem.W.Frag) (fd : FuncData) : Prop := FunD K "__init__" "PlaneError.__init__" (defArgs s_PEinit) (defBody s_PEinit) (defScope s_PEinit) [.str "invalid"] [] (He.fAd K ("PlaneError", some "__init__")) fd
theorem ok_init {P : Program} {w : World} {K : PySem.W.Frag} {mg : Str → Option Value} {base : Heap} {fd : FuncData} (T : Txt K mg) (F : FnI K fd) : FnOk P w K mg base CX0 1 (He.fAd K ("PlaneError", some "__init__")) fd N_init (sp_init K) := by
  have O := exTxt T
  refine F.ok sc_init (fun vs H Q E h => ?len) (fun cdv A outer s H vs Q E hr h => ?body)
  case len => obtain ⟨a, y, rfl, _⟩ := h; rfl
  case body =>
  obtain ⟨a, y, rfl, ha, k⟩ := h
  refine ⟨_, PSs.nox (pss_cons (ps_expr (pe_veinit (pl := _) rfl T.n_ValueError O.vei (pa_cons (pv 0) (pa_cons (pv 1) pa_nil)) rfl)) (pss_one (ps_ost (pv 0) (pv 1)))), ?_⟩
  refine ⟨_, rfl, _, rfl, a, cBV K, [y], rfl, (by show 1 ≤ 1000; decide), O.oex, ha, ?_⟩
  exact ⟨_, rfl, _, rfl, a, cBV K, rfl, O.oex, O.noW, .inl ⟨ha, fun dx hx nx => k dx hx nx⟩⟩
theorem bi_init {K : PySem.W.Frag} {fd : FuncData} (F : FnI K fd) : L2.Binds K fd N_init [] := by
  obtain ⟨ds, hv, hb⟩ := FunD.binds1 (ps := N_init) F 2 1 (by simp) (by rfl) fun _ _ _ _ _ _ _ us its h1 h2 => match us, its, h1, h2 with | [_, _], [_], _, _ => ⟨_, rfl, rfl⟩
  cases hv
  exact hb
/-- BadValue(x) is raised -/
def Raised (K : PySem.W.Frag) (H : Hp) (E : XK) (x : Str) : Prop := ∀ (d : Addr) (H' : Hp), Same H H' → H' d = some (.xd [("why", .str x)]) → E (.ref (cBV K)) (some d) H'
/-- what its making leaves -/
theorem raised_mk {K : PySem.W.Frag} {H : Hp} {E : XK} {x : Str} (h : Raised K H E x) {a dx : Addr} (ha : H a = none) (hd : upd H a (exo a (cBV K) none) dx = none) (ne : dx ≠ a) :
    V.non = V.non ∧ ∃ (d : Addr) (fs : List (Str × V)), (upd (upd (upd H a (exo a (cBV K) none)) dx (exd dx [("why", .str x)])) a (exo a (cBV K) (some dx))) a = some (exo a (cBV K) (some d)) ∧
      (upd (upd (upd H a (exo a (cBV K) none)) dx (exd dx [("why", .str x)])) a (exo a (cBV K) (some dx))) d = some (exd d fs) ∧ H d = none ∧
      E (.ref (cBV K)) (some d) (upd (del (upd (upd (upd H a (exo a (cBV K) none)) dx (exd dx [("why", .str x)])) a (exo a (cBV K) (some dx))) a) d (.xd fs)) := by
  have hd' : H dx = none := by rw [upd_ne ne] at hd; exact hd
  refine ⟨rfl, dx, [("why", .str x)], upd_same, by rw [upd_ne ne, upd_same], hd', h _ _ (fun b o hb => ?_) upd_same⟩
  have n1 : b ≠ a := ne_of_none hb ha
  have n2 : b ≠ dx := ne_of_none hb hd'
  rw [upd_ne n2, del_ne n1, upd_ne n1, upd_ne n2, upd_ne n1]
  exact hb
/-! ### values that are asked about -/
def Vl (H : Hp) (x : V) : Prop := flat x ∨ ∃ a, x = .ref a ∧ ((∃ xs, H a = some (.lst xs)) ∨ (∃ xs, H a = some (.tup xs)) ∨ ∃ kvs, H a = some (.dK kvs))
def isI : V → Bool
  | .int _ => true
  | _ => false
def sp_is_integer (K : PySem.W.Frag) : Sp := fun vs H Q _ => ∃ (x : V), vs = [x] ∧ Vl H x ∧ Q (.bl (isI x)) H
theorem ok_is_integer {P : Program} {w : World} {K : PySem.W.Frag} {mg : Str → Option Value} {base : Heap} {fd : FuncData} (T : Txt K mg) (F : FnP K "is_integer" s_is_integer [] fd) : FnOk P w K mg base CX0 1 (He.ga K "is_integer") fd ps_is_integer (sp_is_integer K) := by
  refine F.ok sc_is_integer (fun vs H Q E h => ?len) (fun cdv A outer s H vs Q E hr h => ?body)
  case len => obtain ⟨x, rfl, hf, k⟩ := h; rfl
  case body =>
  obtain ⟨x, rfl, hf, k⟩ := h
  have hu := hu_of hr
  refine ⟨_, PSs.nox (pss_one (ps_ret (pe_and (pe_callB call_isi (by rfl) T.n_isinstance (by decide +kernel) (pa_cons (pv 0) (pa_cons (pe_bltn (v := .ty "int") rfl T.n_int (by decide +kernel) rfl) pa_nil))) (pe_one (pe_not (pe_callB call_isi (by rfl) T.n_isinstance (by decide +kernel) (pa_cons (pv 0) (pa_cons (pe_bltn (v := .ty "bool") rfl T.n_bool (by decide +kernel) rfl) pa_nil)))))))), ?_⟩
  rcases hf with hf | ⟨a, rfl, hf⟩
  · cases x with
    | non => exact ⟨_, rfl, _, .ty "int", _, _, _, rfl, .ty "int", .base .non, kit_ty (show kitB "NoneType" "int" = some false by decide +kernel), _, rfl, iteF k⟩
    | str z => exact ⟨_, rfl, _, .ty "int", _, _, _, rfl, .ty "int", .base (.str z), kit_ty (show kitB "str" "int" = some false by decide +kernel), _, rfl, iteF k⟩
    | bl b => exact ⟨_, rfl, _, .ty "int", _, _, _, rfl, .ty "int", .base (.bl b), kit_ty (show kitB "bool" "int" = some true by decide +kernel), _, rfl, iteT ⟨_, rfl, .bl b, .ty "bool", _, _, _, rfl, .ty "bool", .base (.bl b), kit_ty (show kitB "bool" "bool" = some true by decide +kernel), _, rfl, k⟩⟩
    | int i => exact ⟨_, rfl, _, .ty "int", _, _, _, rfl, .ty "int", .base (.int i), kit_ty (show kitB "int" "int" = some true by decide +kernel), _, rfl, iteT ⟨_, rfl, .int i, .ty "bool", _, _, _, rfl, .ty "bool", .base (.int i), kit_ty (show kitB "int" "bool" = some false by decide +kernel), _, rfl, k⟩⟩
    | byt _ => exact hf.elim
    | flt _ => exact hf.elim
    | ref _ => exact hf.elim
    | ty _ => exact hf.elim
  · rcases hf with ⟨xs, h⟩ | ⟨xs, h⟩ | ⟨xs, h⟩
    · exact ⟨_, rfl, _, .ty "int", _, _, _, rfl, .ty "int", .base (.lst h), kit_ty (show kitB "list" "int" = some false by decide +kernel), _, rfl, iteF k⟩
    · exact ⟨_, rfl, _, .ty "int", _, _, _, rfl, .ty "int", .base (.tup h), kit_ty (show kitB "tuple" "int" = some false by decide +kernel), _, rfl, iteF k⟩
    · exact ⟨_, rfl, _, .ty "int", _, _, _, rfl, .ty "int", .base (.dK h), kit_ty (show kitB "dict" "int" = some false by decide +kernel), _, rfl, iteF k⟩
def goodC : V → Bool
  | .int i => decide (0 ≤ i)
  | _ => false
/-- the first row that is no count -/
def firstBad : List (Str × V) → Option Str
  | [] => none
  | p :: r => if goodC p.2 = true then firstBad r else some p.1
def CAt (H : Hp) (L : Addr) (items : List (Str × V)) : Prop := ∃ ps : List Addr, H L = some (.lst (ps.map V.ref)) ∧ Paired (fun p q => H p = some (.tup [.str q.1, q.2])) ps items
theorem paired_at {α β : Type} {F : α → β → Prop} : ∀ {xs : List α} {ys : List β} {i : Nat} {a : α}, Paired F xs ys → xs[i]? = some a → ∃ b, ys[i]? = some b ∧ F a b
  | _, _, _, _, .nil, e => by simp at e
  | _, _, 0, _, .cons r _, e => by simp at e; subst e; exact ⟨_, rfl, r⟩
  | _, _, i + 1, a, .cons _ t, e => by
    obtain ⟨b, h1, h2⟩ := paired_at (i := i) (a := a) t (by simpa using e)
    exact ⟨b, by simpa using h1, h2⟩
theorem paired_len {α β : Type} {F : α → β → Prop} : ∀ {xs : List α} {ys : List β}, Paired F xs ys → xs.length = ys.length
  | _, _, .nil => rfl
  | _, _, .cons _ t => by rw [List.length_cons, List.length_cons, paired_len t]
theorem first_drop {p : Str × V} : ∀ (l : List (Str × V)) (i : Nat), l[i]? = some p → firstBad (l.drop i) = if goodC p.2 = true then firstBad (l.drop (i + 1)) else some p.1
  | [], _, h => by simp at h
  | q :: r, 0, h => by
    have e : q = p := by simpa using h
    subst e
    rfl
  | q :: r, i + 1, h => by
    have h' : r[i]? = some p := by simpa using h
    have e := first_drop r i h'
    rw [List.drop_succ_cons, List.drop_succ_cons]
    exact e
def sp_check_counts (K : PySem.W.Frag) : Sp := fun vs H Q E => ∃ (L : Addr) (items : List (Str × V)), vs = [.ref L] ∧ CAt H L items ∧ (∀ p ∈ items, Vl H p.2) ∧ (firstBad items = none → Q .non H) ∧ ∀ x, firstBad items = some x → Raised K H E x
theorem ok_check_counts {P : Program} {w : World} {K : PySem.W.Frag} {mg : Str → Option Value} {base : Heap} {fd : FuncData} (T : Txt K mg) (F : FnP K "check_counts" s_check_counts [] fd) : FnOk P w K mg base (L2.CX P w) 3 (He.ga K "check_counts") fd ps_check_counts (sp_check_counts K) := by
  obtain ⟨fd_is_integer, F_is_integer⟩ := T.d_is_integer
  have G_is_integer := ok_is_integer (P := P) (w := w) (base := base) T F_is_integer
  have k_is_integer := F_is_integer.kp
  have b_is_integer := bi_is_integer F_is_integer
  have O := exTxt T
  obtain ⟨fd_init, F_init⟩ := T.d_PlaneError___init__
  have G_init := ok_init (P := P) (w := w) (base := base) T F_init
  have b_init := bi_init F_init
  refine F.ok sc_check_counts (fun vs H Q E h => ?len) (fun cdv A outer s H vs Q E hr h => ?body)
  case len => obtain ⟨L, items, rfl, ⟨ps, gL, hp⟩, hv, k1, k2⟩ := h; rfl
  case body =>
  obtain ⟨L, items, rfl, ⟨ps, gL, hp⟩, hv, k1, k2⟩ := h
  have hu := hu_of hr
  refine ⟨_, (pss_one (ps_for (passes_of rfl) rfl (pi_list (pv 0)) (pg_tup rfl (pgs_cons (pg_name (i := 1) sc_check_counts.nd rfl (Or.inl rfl)) (pgs_cons (pg_name (i := 2) sc_check_counts.nd rfl (Or.inl rfl)) pgs_nil)))
      (pss_one (ps_if (PW.pt (pw_or (pt_not (pt_val (pe_call G_is_integer (hr.mono (by first | decide | omega)) rfl T.g_is_integer k_is_integer b_is_integer .nil pass0 (pa_cons (pv 2) pa_nil)))) (pw_or1 (pt_cmpR op_lt (pv 2) pe_int (nomark _))))) (pss_one (ps_raise rfl (takes_of rfl rfl rfl rfl) (pmk_oex O.oex O.iC O.tI G_init (hr.mono (by decide)) b_init .nil pass0 rfl T.g_BadValue (pa_cons (pv 1) pa_nil)))) pss_nil)))), ?_⟩
  have lp := paired_len hp
  refine ⟨_, rfl, L, rfl, ⟨_, SqL.of gL⟩, for_list (K := K) (a := L) (xs := ps.map V.ref) (fun i σ H' => ∃ v1 v2 : Option V, σ = [some (.ref L), v1, v2] ∧ H' = H ∧ firstBad items = firstBad (items.drop i))
    ⟨_, _, rfl, rfl, rfl⟩ (fun i σ H' _ ⟨_, _, _, e, _⟩ => by rw [e]; exact SqL.of gL) ?_ ?_⟩
  · rintro i x σ H' hx ⟨v1, v2, rfl, rfl, hb⟩
    rw [List.getElem?_map] at hx
    obtain ⟨p, ep, rfl⟩ := Option.map_eq_some_iff.mp hx
    obtain ⟨q, eq, hq⟩ := paired_at hp ep
    rw [first_drop _ _ eq] at hb
    have bad : goodC q.2 = false → Raised K H' E q.1 := fun e => k2 q.1 (by rw [hb, e]; rfl)
    have good : goodC q.2 = true → firstBad items = firstBad (items.drop (i + 1)) := fun e => by rw [hb, if_pos e]
    refine ⟨p, _, rfl, SqT.of hq, rfl, _, _, rfl, _, _, rfl, rfl, ?_⟩
    refine ⟨_, rfl, q.2, rfl, hv q (mem_at eq), _, rfl, ?_⟩
    generalize q.2 = y at *
    have rs : Raised K H' E q.1 → tMkO (cBV K) (sp_init K) [] (tCons (tVar 1) tNil) [some (.ref L), some (.str q.1), some y] H' fun cls d H'' => E cls d H'' := fun h =>
      ⟨_, rfl, (by show 1 ≤ 1000; decide), fun a ha => ⟨a, _, rfl, upd_same, fun dx hdx ne => raised_mk h ha hdx ne⟩⟩
    cases y with
    | int z =>
      refine iteF ⟨_, rfl, _, _, rfl, rfl, _, rfl, ?_⟩
      by_cases hz : z < 0
      · rw [decide_eq_true hz]
        exact iteT (rs (bad (decide_eq_false (by omega))))
      · rw [decide_eq_false hz]
        exact iteF ⟨_, _, rfl, rfl, good (decide_eq_true (by omega))⟩
    | non => exact iteT (iteT (rs (bad rfl)))
    | str _ => exact iteT (iteT (rs (bad rfl)))
    | bl _ => exact iteT (iteT (rs (bad rfl)))
    | byt _ => exact iteT (iteT (rs (bad rfl)))
    | flt _ => exact iteT (iteT (rs (bad rfl)))
    | ref _ => exact iteT (iteT (rs (bad rfl)))
    | ty _ => exact iteT (iteT (rs (bad rfl)))
  · rintro σ H' ⟨v1, v2, rfl, rfl, hb⟩
    rw [List.length_map, lp, List.drop_length] at hb
    exact k1 hb

/-! ### spare, planned_for, wanted -/
theorem Raised.mono {K : PySem.W.Frag} {H H1 : Hp} {E : XK} {x : Str} (h : Raised K H E x) (s : Same H H1) : Raised K H1 E x := fun d H' s' hd => h d H' (fun b o e => s' b o (s b o e)) hd
theorem Vl.mono {H H1 : Hp} {x : V} (h : Vl H x) (s : Same H H1) : Vl H1 x := by
  rcases h with h | ⟨a, e, h⟩
  · exact .inl h
  · refine .inr ⟨a, e, ?_⟩
    rcases h with ⟨xs, h⟩ | ⟨xs, h⟩ | ⟨xs, h⟩
    · exact .inl ⟨xs, s _ _ h⟩
    · exact .inr (.inl ⟨xs, s _ _ h⟩)
    · exact .inr (.inr ⟨xs, s _ _ h⟩)
theorem Same.trans' {H H1 H2 : Hp} (a : Same H H1) (b : Same H1 H2) : Same H H2 := fun x o h => b x o (a x o h)
theorem good_int {x : V} (h : goodC x = true) : ∃ i : Int, x = .int i ∧ 0 ≤ i := by
  cases x with
  | int i => exact ⟨i, rfl, of_decide_eq_true h⟩
  | _ => cases h
theorem firstBad_none : ∀ {l : List (Str × V)}, firstBad l = none → ∀ p ∈ l, goodC p.2 = true
  | [], _, _, h => by cases h
  | q :: r, e, p, h => by
    unfold firstBad at e
    split at e
    · rename_i g
      rcases List.mem_cons.mp h with rfl | h
      · exact g
      · exact firstBad_none e p h
    · cases e
def sp_spare (K : PySem.W.Frag) : Sp := fun vs H Q E => ∃ (x y z : V), vs = [x, y, z] ∧ Vl H x ∧ Vl H y ∧ Vl H z ∧
  (∀ (i j l : Int) (H' : Hp), x = .int i → y = .int j → z = .int l → 0 ≤ i → 0 ≤ j → 0 ≤ l → Same H H' → Q (.int (max 0 (l - max 0 (i - j)))) H') ∧
  ∀ q, firstBad [("replicas", x), ("down", y), ("ready", z)] = some q → Raised K H E q
theorem max_if (i j : Int) : (if j > i then j else i) = max i j := by split <;> omega
theorem min_if (i j : Int) : (if j < i then j else i) = min i j := by split <;> omega
theorem ok_spare {P : Program} {w : World} {K : PySem.W.Frag} {mg : Str → Option Value} {base : Heap} {fd : FuncData} (T : Txt K mg) (F : FnP K "spare" s_spare [] fd) : FnOk P w K mg base (L2.CX P w) 4 (He.ga K "spare") fd ps_spare (sp_spare K) := by
  obtain ⟨fd_check_counts, F_check_counts⟩ := T.d_check_counts
  have G_check_counts := ok_check_counts (P := P) (w := w) (base := base) T F_check_counts
  have k_check_counts := F_check_counts.kp
  have b_check_counts := bi_check_counts F_check_counts
  refine F.ok sc_spare (fun vs H Q E h => ?len) (fun cdv A outer s H vs Q E hr h => ?body)
  case len => obtain ⟨x, y, z, rfl, hx, hy, hz, k1, k2⟩ := h; rfl
  case body =>
  obtain ⟨x, y, z, rfl, hx, hy, hz, k1, k2⟩ := h
  have hu := hu_of hr
  refine ⟨_, (pss_cons (ps_expr (pe_call G_check_counts (hr.mono (by first | decide | omega)) rfl T.g_check_counts k_check_counts b_check_counts .nil (passes_call (takes_of rfl rfl rfl rfl) (fun _ _ _ _ h => h)) (pa_cons (pe_lst (pa_cons (pe_tup (pa_cons pe_str (pa_cons (pv 0) pa_nil))) (pa_cons (pe_tup (pa_cons pe_str (pa_cons (pv 1) pa_nil))) (pa_cons (pe_tup (pa_cons pe_str (pa_cons (pv 2) pa_nil))) pa_nil)))) pa_nil)))
    (pss_one (ps_ret (pe_callB (call_max2 rfl) (by rfl) T.n_max (by decide +kernel) (pa_cons pe_int (pa_cons (pe_op op_sub (pv 2) (pe_callB (call_max2 rfl) (by rfl) T.n_max (by decide +kernel) (pa_cons pe_int (pa_cons (pe_op op_sub (pv 0) (pv 1)) pa_nil)))) pa_nil)))))), ?_⟩
  refine ⟨_, rfl, smallN (by show 2 ≤ 1000; decide), fun p1 n1 => ?_⟩
  refine ⟨_, rfl, smallN (by show 2 ≤ 1000; decide), fun p2 n2 => ?_⟩
  refine ⟨_, rfl, smallN (by show 2 ≤ 1000; decide), fun p3 n3 => ?_⟩
  refine ⟨smallN (by show 3 ≤ 1000; decide), fun p4 n4 => ?_⟩
  have sm := Same.trans' (Same.trans' (Same.trans' (Same.new (u := .tup [.str "replicas", x]) n1) (Same.new (u := .tup [.str "down", y]) n2)) (Same.new (u := .tup [.str "ready", z]) n3)) (Same.new (u := .lst [.ref p1, .ref p2, .ref p3]) n4)
  refine ⟨p4, [("replicas", x), ("down", y), ("ready", z)], rfl, ⟨[p1, p2, p3], upd_same, .cons (Same.new n4 _ _ (Same.new n3 _ _ (Same.new n2 _ _ upd_same))) (.cons (Same.new n4 _ _ (Same.new n3 _ _ upd_same)) (.cons (Same.new n4 _ _ upd_same) .nil))⟩, ?_, fun e => ?_, fun q e => (k2 q e).mono sm⟩
  · intro p hp
    simp only [List.mem_cons, List.not_mem_nil, or_false] at hp
    rcases hp with rfl | rfl | rfl
    · exact hx.mono sm
    · exact hy.mono sm
    · exact hz.mono sm
  · have g := firstBad_none e
    obtain ⟨i, rfl, hi⟩ := good_int (g _ (List.mem_cons_self ..))
    obtain ⟨j, rfl, hj⟩ := good_int (g ("down", y) (by simp))
    obtain ⟨l, rfl, hl⟩ := good_int (g ("ready", z) (by simp))
    refine ⟨_, rfl, _, rfl, _, rfl, i, j, rfl, rfl, 0, i - j, rfl, l, _, rfl, rfl, 0, _, rfl, ?_⟩
    rw [max_if, max_if]
    exact k1 i j l _ rfl rfl rfl hi hj hl sm
def planI (r s p h : Int) : Int := if h < r ∧ p < r + s then min r (h + r + s - p) else min h r
def sp_planned_for (K : PySem.W.Frag) : Sp := fun vs H Q E => ∃ (x y z t : V), vs = [x, y, z, t] ∧ Vl H x ∧ Vl H y ∧ Vl H z ∧ Vl H t ∧
  (∀ (i j l m : Int) (H' : Hp), x = .int i → y = .int j → z = .int l → t = .int m → 0 ≤ i → 0 ≤ j → 0 ≤ l → 0 ≤ m → Same H H' → (m ≤ l → Q (.int (planI i j l m)) H') ∧ (l < m → Raised K H E "have")) ∧
  ∀ q, firstBad [("replicas", x), ("surge", y), ("planned", z), ("have", t)] = some q → Raised K H E q
theorem ok_planned_for {P : Program} {w : World} {K : PySem.W.Frag} {mg : Str → Option Value} {base : Heap} {fd : FuncData} (T : Txt K mg) (F : FnP K "planned_for" s_planned_for [] fd) : FnOk P w K mg base (L2.CX P w) 4 (He.ga K "planned_for") fd ps_planned_for (sp_planned_for K) := by
  obtain ⟨fd_check_counts, F_check_counts⟩ := T.d_check_counts
  have G_check_counts := ok_check_counts (P := P) (w := w) (base := base) T F_check_counts
  have k_check_counts := F_check_counts.kp
  have b_check_counts := bi_check_counts F_check_counts
  have O := exTxt T
  obtain ⟨fd_init, F_init⟩ := T.d_PlaneError___init__
  have G_init := ok_init (P := P) (w := w) (base := base) T F_init
  have b_init := bi_init F_init
  refine F.ok sc_planned_for (fun vs H Q E h => ?len) (fun cdv A outer s H vs Q E hr h => ?body)
  case len => obtain ⟨x, y, z, t, rfl, hx, hy, hz, ht, k1, k2⟩ := h; rfl
  case body =>
  obtain ⟨x, y, z, t, rfl, hx, hy, hz, ht, k1, k2⟩ := h
  have hu := hu_of hr
  refine ⟨_, (pss_cons (ps_expr (pe_call G_check_counts (hr.mono (by first | decide | omega)) rfl T.g_check_counts k_check_counts b_check_counts .nil (passes_call (takes_of rfl rfl rfl rfl) (fun _ _ _ _ h => h)) (pa_cons (pe_lst (pa_cons (pe_tup (pa_cons pe_str (pa_cons (pv 0) pa_nil))) (pa_cons (pe_tup (pa_cons pe_str (pa_cons (pv 1) pa_nil))) (pa_cons (pe_tup (pa_cons pe_str (pa_cons (pv 2) pa_nil))) (pa_cons (pe_tup (pa_cons pe_str (pa_cons (pv 3) pa_nil))) pa_nil))))) pa_nil)))
    (pss_cons (ps_if (pt_cmpR op_gt (pv 3) (pv 2) (nomark _)) (pss_one (ps_raise rfl (takes_of rfl rfl rfl rfl) (pmk_oex O.oex O.iC O.tI G_init (hr.mono (by decide)) b_init .nil pass0 rfl T.g_BadValue (pa_cons pe_str pa_nil)))) pss_nil)
    (pss_cons (ps_if (PW.pt (pw_and (pt_cmpR op_lt (pv 3) (pv 0) (nomark _)) (pw_and1 (pt_cmpR op_lt (pv 2) (pe_op op_add (pv 0) (pv 1)) (nomark _))))) (pss_one (ps_ret (pe_callB (call_min2 rfl) (by rfl) T.n_min (by decide +kernel) (pa_cons (pv 0) (pa_cons (pe_op op_sub (pe_op op_add (pe_op op_add (pv 3) (pv 0)) (pv 1)) (pv 2)) pa_nil))))) pss_nil)
    (pss_one (ps_ret (pe_callB (call_min2 rfl) (by rfl) T.n_min (by decide +kernel) (pa_cons (pv 3) (pa_cons (pv 0) pa_nil)))))))), ?_⟩
  refine ⟨_, rfl, smallN (by show 2 ≤ 1000; decide), fun p1 n1 => ?_⟩
  refine ⟨_, rfl, smallN (by show 2 ≤ 1000; decide), fun p2 n2 => ?_⟩
  refine ⟨_, rfl, smallN (by show 2 ≤ 1000; decide), fun p3 n3 => ?_⟩
  refine ⟨_, rfl, smallN (by show 2 ≤ 1000; decide), fun p4 n4 => ?_⟩
  refine ⟨smallN (by show 4 ≤ 1000; decide), fun p5 n5 => ?_⟩
  have sm := Same.trans' (Same.trans' (Same.trans' (Same.trans' (Same.new (u := .tup [.str "replicas", x]) n1) (Same.new (u := .tup [.str "surge", y]) n2)) (Same.new (u := .tup [.str "planned", z]) n3)) (Same.new (u := .tup [.str "have", t]) n4)) (Same.new (u := .lst [.ref p1, .ref p2, .ref p3, .ref p4]) n5)
  refine ⟨p5, [("replicas", x), ("surge", y), ("planned", z), ("have", t)], rfl, ⟨[p1, p2, p3, p4], upd_same, .cons (Same.new n5 _ _ (Same.new n4 _ _ (Same.new n3 _ _ (Same.new n2 _ _ upd_same)))) (.cons (Same.new n5 _ _ (Same.new n4 _ _ (Same.new n3 _ _ upd_same))) (.cons (Same.new n5 _ _ (Same.new n4 _ _ upd_same)) (.cons (Same.new n5 _ _ upd_same) .nil)))⟩, ?_, fun e => ?_, fun q e => (k2 q e).mono sm⟩
  · intro p hp
    simp only [List.mem_cons, List.not_mem_nil, or_false] at hp
    rcases hp with rfl | rfl | rfl | rfl
    · exact hx.mono sm
    · exact hy.mono sm
    · exact hz.mono sm
    · exact ht.mono sm
  · have g := firstBad_none e
    obtain ⟨i, rfl, hi⟩ := good_int (g _ (List.mem_cons_self ..))
    obtain ⟨j, rfl, hj⟩ := good_int (g ("surge", y) (by simp))
    obtain ⟨l, rfl, hl⟩ := good_int (g ("planned", z) (by simp))
    obtain ⟨m, rfl, hm⟩ := good_int (g ("have", t) (by simp))
    obtain ⟨q1, q2⟩ := k1 i j l m _ rfl rfl rfl rfl hi hj hl hm sm
    refine ⟨_, rfl, _, rfl, _, _, rfl, rfl, _, rfl, ?_⟩
    by_cases c : l < m
    · rw [decide_eq_true c]
      exact iteT ⟨(by show 1 ≤ 1000; decide), fun a ha => ⟨a, _, rfl, upd_same, fun dx hdx ne => raised_mk ((q2 c).mono sm) ha hdx ne⟩⟩
    · rw [decide_eq_false c]
      have q := q1 (by omega)
      unfold planI at q
      refine iteF ⟨_, rfl, _, rfl, _, _, rfl, rfl, _, rfl, ?_⟩
      by_cases c1 : m < i
      · rw [decide_eq_true c1]
        refine iteT ⟨_, rfl, _, rfl, _, rfl, _, _, rfl, rfl, _, _, rfl, rfl, _, rfl, ?_⟩
        by_cases c2 : l < i + j
        · rw [decide_eq_true c2]
          refine iteT ⟨_, rfl, _, rfl, _, rfl, _, _, rfl, rfl, _, rfl, _, _, rfl, rfl, _, rfl, _, _, rfl, rfl, _, _, rfl, ?_⟩
          rw [if_pos ⟨c1, c2⟩] at q
          rw [min_if]
          exact q
        · rw [decide_eq_false c2]
          refine iteF ⟨_, rfl, _, rfl, _, _, rfl, ?_⟩
          rw [if_neg (fun z => c2 z.2)] at q
          rw [min_if]
          exact q
      · rw [decide_eq_false c1]
        refine iteF (iteF ⟨_, rfl, _, rfl, _, _, rfl, ?_⟩)
        rw [if_neg (fun z => c1 z.1)] at q
        rw [min_if]
        exact q
def wantI (a b c d : Int) : Int := max c (min d ((a + b - 1) / b))
def sp_wanted (K : PySem.W.Frag) : Sp := fun vs H Q E => ∃ (x y z t : V), vs = [x, y, z, t] ∧ Vl H x ∧ Vl H y ∧ Vl H z ∧ Vl H t ∧ (∀ i, y = .int i → i ≤ 1000000000) ∧
  (∀ (i j l m : Int) (H' : Hp), x = .int i → y = .int j → z = .int l → t = .int m → 0 ≤ i → 0 ≤ j → 0 ≤ l → 0 ≤ m → Same H H' → (0 < j → l ≤ m → Q (.int (wantI i j l m)) H') ∧ (j = 0 → Raised K H E "aim") ∧ (0 < j → m < l → Raised K H E "high")) ∧
  ∀ q, firstBad [("load", x), ("aim", y), ("low", z), ("high", t)] = some q → Raised K H E q
theorem ok_wanted {P : Program} {w : World} {K : PySem.W.Frag} {mg : Str → Option Value} {base : Heap} {fd : FuncData} (T : Txt K mg) (F : FnP K "wanted" s_wanted [] fd) : FnOk P w K mg base (L2.CX P w) 4 (He.ga K "wanted") fd ps_wanted (sp_wanted K) := by
  obtain ⟨fd_check_counts, F_check_counts⟩ := T.d_check_counts
  have G_check_counts := ok_check_counts (P := P) (w := w) (base := base) T F_check_counts
  have k_check_counts := F_check_counts.kp
  have b_check_counts := bi_check_counts F_check_counts
  have O := exTxt T
  obtain ⟨fd_init, F_init⟩ := T.d_PlaneError___init__
  have G_init := ok_init (P := P) (w := w) (base := base) T F_init
  have b_init := bi_init F_init
  refine F.ok sc_wanted (fun vs H Q E h => ?len) (fun cdv A outer s H vs Q E hr h => ?body)
  case len => obtain ⟨x, y, z, t, rfl, hx, hy, hz, ht, hb, k1, k2⟩ := h; rfl
  case body =>
  obtain ⟨x, y, z, t, rfl, hx, hy, hz, ht, hb, k1, k2⟩ := h
  have hu := hu_of hr
  refine ⟨_, (pss_cons (ps_expr (pe_call G_check_counts (hr.mono (by first | decide | omega)) rfl T.g_check_counts k_check_counts b_check_counts .nil (passes_call (takes_of rfl rfl rfl rfl) (fun _ _ _ _ h => h)) (pa_cons (pe_lst (pa_cons (pe_tup (pa_cons pe_str (pa_cons (pv 0) pa_nil))) (pa_cons (pe_tup (pa_cons pe_str (pa_cons (pv 1) pa_nil))) (pa_cons (pe_tup (pa_cons pe_str (pa_cons (pv 2) pa_nil))) (pa_cons (pe_tup (pa_cons pe_str (pa_cons (pv 3) pa_nil))) pa_nil))))) pa_nil)))
    (pss_cons (ps_if (pt_cmpR op_eq (pv 1) pe_int (nomark _)) (pss_one (ps_raise rfl (takes_of rfl rfl rfl rfl) (pmk_oex O.oex O.iC O.tI G_init (hr.mono (by decide)) b_init .nil pass0 rfl T.g_BadValue (pa_cons pe_str pa_nil)))) pss_nil)
    (pss_cons (ps_if (pt_cmpR op_gt (pv 2) (pv 3) (nomark _)) (pss_one (ps_raise rfl (takes_of rfl rfl rfl rfl) (pmk_oex O.oex O.iC O.tI G_init (hr.mono (by decide)) b_init .nil pass0 rfl T.g_BadValue (pa_cons pe_str pa_nil)))) pss_nil)
    (pss_one (ps_ret (pe_callB (call_max2 rfl) (by rfl) T.n_max (by decide +kernel) (pa_cons (pv 2) (pa_cons (pe_callB (call_min2 rfl) (by rfl) T.n_min (by decide +kernel) (pa_cons (pv 3) (pa_cons (pe_op op_fdivW (pe_op op_sub (pe_op op_add (pv 0) (pv 1)) pe_int) (pv 1)) pa_nil))) pa_nil)))))))), ?_⟩
  refine ⟨_, rfl, smallN (by show 2 ≤ 1000; decide), fun p1 n1 => ?_⟩
  refine ⟨_, rfl, smallN (by show 2 ≤ 1000; decide), fun p2 n2 => ?_⟩
  refine ⟨_, rfl, smallN (by show 2 ≤ 1000; decide), fun p3 n3 => ?_⟩
  refine ⟨_, rfl, smallN (by show 2 ≤ 1000; decide), fun p4 n4 => ?_⟩
  refine ⟨smallN (by show 4 ≤ 1000; decide), fun p5 n5 => ?_⟩
  have sm := Same.trans' (Same.trans' (Same.trans' (Same.trans' (Same.new (u := .tup [.str "load", x]) n1) (Same.new (u := .tup [.str "aim", y]) n2)) (Same.new (u := .tup [.str "low", z]) n3)) (Same.new (u := .tup [.str "high", t]) n4)) (Same.new (u := .lst [.ref p1, .ref p2, .ref p3, .ref p4]) n5)
  refine ⟨p5, [("load", x), ("aim", y), ("low", z), ("high", t)], rfl, ⟨[p1, p2, p3, p4], upd_same, .cons (Same.new n5 _ _ (Same.new n4 _ _ (Same.new n3 _ _ (Same.new n2 _ _ upd_same)))) (.cons (Same.new n5 _ _ (Same.new n4 _ _ (Same.new n3 _ _ upd_same))) (.cons (Same.new n5 _ _ (Same.new n4 _ _ upd_same)) (.cons (Same.new n5 _ _ upd_same) .nil)))⟩, ?_, fun e => ?_, fun q e => (k2 q e).mono sm⟩
  · intro p hp
    simp only [List.mem_cons, List.not_mem_nil, or_false] at hp
    rcases hp with rfl | rfl | rfl | rfl
    · exact hx.mono sm
    · exact hy.mono sm
    · exact hz.mono sm
    · exact ht.mono sm
  · have g := firstBad_none e
    obtain ⟨i, rfl, hi⟩ := good_int (g _ (List.mem_cons_self ..))
    obtain ⟨j, rfl, hj⟩ := good_int (g ("aim", y) (by simp))
    obtain ⟨l, rfl, hl⟩ := good_int (g ("low", z) (by simp))
    obtain ⟨m, rfl, hm⟩ := good_int (g ("high", t) (by simp))
    obtain ⟨q1, q2, q3⟩ := k1 i j l m _ rfl rfl rfl rfl hi hj hl hm sm
    refine ⟨_, rfl, rfl, _, rfl, ?_⟩
    by_cases c : j = 0
    · rw [decide_eq_true (by rw [c])]
      exact iteT ⟨(by show 1 ≤ 1000; decide), fun a ha => ⟨a, _, rfl, upd_same, fun dx hdx ne => raised_mk ((q2 c).mono sm) ha hdx ne⟩⟩
    · rw [decide_eq_false fun z => c (V.int.inj z)]
      have j0 : 0 < j := by omega
      refine iteF ⟨_, rfl, _, rfl, _, _, rfl, rfl, _, rfl, ?_⟩
      by_cases c1 : m < l
      · rw [decide_eq_true c1]
        exact iteT ⟨(by show 1 ≤ 1000; decide), fun a ha => ⟨a, _, rfl, upd_same, fun dx hdx ne => raised_mk ((q3 j0 c1).mono sm) ha hdx ne⟩⟩
      · rw [decide_eq_false c1]
        have q := q1 j0 (by omega)
        unfold wantI at q
        have hbj := hb j rfl
        refine iteF ⟨_, rfl, _, rfl, _, rfl, _, rfl, _, _, rfl, rfl, _, _, rfl, rfl, _, rfl, _, _, rfl, rfl, wdiv j0 (by omega), _, _, rfl, _, _, rfl, ?_⟩
        rw [max_if, min_if]
        exact q

/-! ### the numbers of the law -/
theorem well_same {a : Addr} {n : Nat} {H H' : Hp} (w : WellAt H a n) (x : Same H H') : WellAt H' a n := by
  obtain ⟨u, hu, o⟩ := w; exact ⟨u, x _ _ hu, o⟩
def sp__law_number (K : PySem.W.Frag) : Sp := fun vs H Q _ => ∃ (a : Addr) (n : Nat), vs = [.ref a] ∧ WellAt H a n ∧ n < 900000 ∧
  ∀ (r : Int) (H' : Hp) (n' : Nat), 0 ≤ r → r ≤ 1000000 → Keep a H H' → WellAt H' a n' → n' ≤ n + 3 → Q (.int r) H'
theorem ok__law_number {P : Program} {w : World} {K : PySem.W.Frag} {mg : Str → Option Value} {base : Heap} {fd : FuncData} (T : Txt K mg) (F : FnP K "_law_number" s__law_number [] fd) : FnOk P w K mg base CX0 3 (He.ga K "_law_number") fd ps__law_number (sp__law_number K) := by
  obtain ⟨fd__law_pick, F__law_pick⟩ := T.d__law_pick
  have G__law_pick := ok__law_pick (P := P) (w := w) (base := base) T F__law_pick
  have k__law_pick := F__law_pick.kp
  have b__law_pick := bi__law_pick F__law_pick
  obtain ⟨fd__law_draw, F__law_draw⟩ := T.d__law_draw
  have G__law_draw := ok__law_draw (P := P) (w := w) (base := base) T F__law_draw
  have k__law_draw := F__law_draw.kp
  have b__law_draw := bi__law_draw F__law_draw
  refine F.ok sc__law_number (fun vs H Q E h => ?len) (fun cdv A outer s H vs Q E hr h => ?body)
  case len => obtain ⟨a, n, rfl, hw, hn, k⟩ := h; rfl
  case body =>
  obtain ⟨a, n, rfl, hw, hn, k⟩ := h
  have hu := hu_of hr
  refine ⟨_, PSs.nox (pss_one (ps_ret (pe_call G__law_pick (hr.mono (by first | decide | omega)) rfl T.g__law_pick k__law_pick b__law_pick .nil pass0 (pa_cons (pv 0) (pa_cons (pe_lst (pa_cons pe_int (pa_cons pe_int (pa_cons pe_int (pa_cons pe_int (pa_cons pe_int (pa_cons (pe_call G__law_draw (hr.mono (by first | decide | omega)) rfl T.g__law_draw k__law_draw b__law_draw .nil pass0 (pa_cons (pv 0) (pa_cons pe_int pa_nil))) (pa_cons (pe_call G__law_draw (hr.mono (by first | decide | omega)) rfl T.g__law_draw k__law_draw b__law_draw .nil pass0 (pa_cons (pv 0) (pa_cons (pe_op op_pow pe_int pe_int) pa_nil))) pa_nil)))))))) pa_nil))))), ?_⟩
  refine ⟨_, rfl, _, rfl, a, n, 20, rfl, hw, (by omega), by decide, by decide, fun r1 u1 n1 r10 r11 hn1 hu1 => ?_⟩
  have w1 := well_upd (H := H) (a := a) hu1
  have K1 : Keep a H (upd H a u1) := Keep.at_
  generalize upd H a u1 = H1 at w1 K1 ⊢
  refine ⟨_, rfl, _, _, rfl, rfl, ⟨by decide, by decide, by decide⟩, a, n1, 1000000, rfl, w1, (by omega), by decide, by decide, fun r2 u2 n2 r20 r21 hn2 hu2 => ?_⟩
  have w2 := well_upd (H := H1) (a := a) hu2
  have K2 := K1.trans (Keep.at_ (u := u2))
  generalize upd H1 a u2 = H2 at w2 K2 ⊢
  refine ⟨smallN (by show 7 ≤ 1000; decide), fun p q => ?_⟩
  refine ⟨a, p, n2, _, rfl, well_new w2 q, (by omega), upd_same, well_ne3 w2 q, (by show 0 < 7; decide), (by show 7 ≤ 1000; decide), fun y u3 n3 hy hn3 hu3 => ?_⟩
  have w3 := well_upd (H := upd H2 p (.lst [.int 0, .int 1, .int 2, .int 3, .int 12, .int r1, .int r2])) (a := a) hu3
  have K3 := (K2.trans (Keep.new (u := .lst [.int 0, .int 1, .int 2, .int 3, .int 12, .int r1, .int r2]) q)).trans (Keep.at_ (u := u3))
  simp only [List.mem_cons, List.not_mem_nil, or_false] at hy
  rcases hy with rfl | rfl | rfl | rfl | rfl | rfl | rfl
  · exact k 0 _ n3 (by omega) (by omega) K3 w3 (by omega)
  · exact k 1 _ n3 (by omega) (by omega) K3 w3 (by omega)
  · exact k 2 _ n3 (by omega) (by omega) K3 w3 (by omega)
  · exact k 3 _ n3 (by omega) (by omega) K3 w3 (by omega)
  · exact k 12 _ n3 (by omega) (by omega) K3 w3 (by omega)
  · exact k r1 _ n3 (by omega) (by omega) K3 w3 (by omega)
  · exact k r2 _ n3 (by omega) (by omega) K3 w3 (by omega)
theorem ceil_up {l a : Int} (ha : 0 < a) : l ≤ (l + a - 1) / a * a := by
  have h1 := Int.emod_add_mul_ediv (l + a - 1) a
  have h2 := Int.emod_lt_of_pos (l + a - 1) ha
  have h3 : (l + a - 1) / a * a = a * ((l + a - 1) / a) := Int.mul_comm _ _
  omega
theorem ceil_dn {l a : Int} (ha : 0 < a) : ((l + a - 1) / a - 1) * a < l := by
  have h1 := Int.emod_add_mul_ediv (l + a - 1) a
  have h2 := Int.emod_nonneg (l + a - 1) (b := a) (by omega)
  have h3 : ((l + a - 1) / a - 1) * a = a * ((l + a - 1) / a) - a := by rw [Int.sub_mul, Int.mul_comm, Int.one_mul]
  omega
theorem want_lo {l a lo hi : Int} (h : lo ≤ hi) : lo ≤ wantI l a lo hi := by unfold wantI; omega
theorem want_hi {l a lo hi : Int} (h : lo ≤ hi) : wantI l a lo hi ≤ hi := by unfold wantI; omega
theorem want_dn {l a lo hi : Int} (ha : 0 < a) (g : lo < wantI l a lo hi) : (wantI l a lo hi - 1) * a < l := by
  have h2 : wantI l a lo hi ≤ (l + a - 1) / a := by unfold wantI at g ⊢; omega
  have h3 := ceil_dn (l := l) ha
  have h4 : (wantI l a lo hi - 1) * a ≤ ((l + a - 1) / a - 1) * a := Int.mul_le_mul_of_nonneg_right (by omega) (by omega)
  omega
theorem want_up {l a lo hi : Int} (ha : 0 < a) (g : wantI l a lo hi < hi) : l ≤ wantI l a lo hi * a := by
  have h2 : (l + a - 1) / a ≤ wantI l a lo hi := by unfold wantI at g ⊢; omega
  have h3 := ceil_up (l := l) ha
  have h4 : (l + a - 1) / a * a ≤ wantI l a lo hi * a := Int.mul_le_mul_of_nonneg_right h2 (by omega)
  omega
def sp__law_right (K : PySem.W.Frag) : Sp := fun vs H Q _ => ∃ (a : Addr) (n : Nat), vs = [.ref a] ∧ WellAt H a n ∧ n < 800000 ∧
  ∀ (H' : Hp) (n' : Nat), Keep a H H' → WellAt H' a n' → n' ≤ n + 40 → Q (.bl true) H'
theorem bad_no {K : PySem.W.Frag} {H : Hp} {l : List (Str × V)} (h : ∀ p ∈ l, goodC p.2 = true) : ∀ q, firstBad l = some q → Raised K H E0 q := fun q e => by
  exfalso
  induction l with
  | nil => cases e
  | cons p r ih =>
    unfold firstBad at e
    rw [if_pos (h p (by simp))] at e
    exact ih (fun p hp => h p (by simp [hp])) e
theorem at_st {t : TS} {R : Ends} {σ σ' : L2.St} {H : Hp} (e : σ = σ') (h : t R σ' H) : t R σ H := e ▸ h
theorem ite_q {c : Bool} {A B : Prop} (hb : B) (ha : c = true → B → A) : (if c = true then A else B) := by
  cases c
  · exact hb
  · exact ha rfl hb
theorem mulSm {x y : Int} (hx : 0 ≤ x) (hx' : x ≤ 3000000) (hy : 0 ≤ y) (hy' : y ≤ 3000000) : (0 : Int) ≤ x * y ∧ x * y ≤ 3000000 * 3000000 := ⟨Int.mul_nonneg hx hy, Int.mul_le_mul hx' hy' hy (by omega)⟩
theorem tIf_int {a b : TE} {σ : L2.St} {H : Hp} {Q : VK} {c : Bool} (x y : Int) (k : ∀ z, (c = true → z = x) → (c = false → z = y) → Q (.int z) H) (ha : c = true → Q (.int x) H → a σ H Q) (hb : c = false → Q (.int y) H → b σ H Q) : if c = true then a σ H Q else b σ H Q := by
  cases c
  · exact hb rfl (k y (fun h => by cases h) fun _ => rfl)
  · exact ha rfl (k x (fun _ => rfl) fun h => by cases h)
theorem plan_ge {r s p h : Int} (c : r ≤ h) : planI r s p h = r := by unfold planI; split <;> omega
theorem plan_lt {r s p h : Int} (c : h < r) : planI r s p h = if r + s - p ≤ 0 then h else min r (h + (r + s - p)) := by unfold planI; split <;> split <;> omega
theorem plan_lo {r s p h : Int} (c : h < r) : h ≤ planI r s p h := by unfold planI; split <;> omega
theorem plan_hi {r s p h : Int} : planI r s p h ≤ r := by unfold planI; split <;> omega
theorem ok__law_right {P : Program} {w : World} {K : PySem.W.Frag} {mg : Str → Option Value} {base : Heap} {fd : FuncData} (T : Txt K mg) (F : FnP K "_law_right" s__law_right [] fd) : FnOk P w K mg base CX0 5 (He.ga K "_law_right") fd ps__law_right (sp__law_right K) := by
  obtain ⟨fd__law_number, F__law_number⟩ := T.d__law_number
  have G__law_number := ok__law_number (P := P) (w := w) (base := base) T F__law_number
  have k__law_number := F__law_number.kp
  have b__law_number := bi__law_number F__law_number
  obtain ⟨fd_wanted, F_wanted⟩ := T.d_wanted
  have G_wanted := ok_wanted (P := P) (w := w) (base := base) T F_wanted
  have k_wanted := F_wanted.kp
  have b_wanted := bi_wanted F_wanted
  obtain ⟨fd_planned_for, F_planned_for⟩ := T.d_planned_for
  have G_planned_for := ok_planned_for (P := P) (w := w) (base := base) T F_planned_for
  have k_planned_for := F_planned_for.kp
  have b_planned_for := bi_planned_for F_planned_for
  obtain ⟨fd__law_draw, F__law_draw⟩ := T.d__law_draw
  have G__law_draw := ok__law_draw (P := P) (w := w) (base := base) T F__law_draw
  have k__law_draw := F__law_draw.kp
  have b__law_draw := bi__law_draw F__law_draw
  obtain ⟨fd_spare, F_spare⟩ := T.d_spare
  have G_spare := ok_spare (P := P) (w := w) (base := base) T F_spare
  have k_spare := F_spare.kp
  have b_spare := bi_spare F_spare
  refine F.ok sc__law_right (fun vs H Q E h => ?len) (fun cdv A outer s H vs Q E hr h => ?body)
  case len => obtain ⟨a, n, rfl, hw, hn, k⟩ := h; rfl
  case body =>
  obtain ⟨a, n, rfl, hw, hn, k⟩ := h
  have hu := hu_of hr
  refine ⟨_, PSs.nox (pss_cons (ps_par (i := 1) (j := 2) (by rfl) sc__law_right.nd rfl rfl (by decide) rfl rfl (pa_cons (pe_call G__law_number (hr.mono (by first | decide | omega)) rfl T.g__law_number k__law_number b__law_number .nil pass0 (pa_cons (pv 0) pa_nil)) (pa_cons (pe_op op_add pe_int (pe_call G__law_number (hr.mono (by first | decide | omega)) rfl T.g__law_number k__law_number b__law_number .nil pass0 (pa_cons (pv 0) pa_nil))) pa_nil)) (by rfl))
    (pss_cons (ps_set (i := 3) sc__law_right.nd rfl (Or.inl rfl) (pe_call G__law_number (hr.mono (by first | decide | omega)) rfl T.g__law_number k__law_number b__law_number .nil pass0 (pa_cons (pv 0) pa_nil)))
    (pss_cons (ps_set (i := 4) sc__law_right.nd rfl (Or.inl rfl) (pe_op op_add (pv 3) (pe_call G__law_number (hr.mono (by first | decide | omega)) rfl T.g__law_number k__law_number b__law_number .nil pass0 (pa_cons (pv 0) pa_nil))))
    (pss_cons (ps_set (i := 5) sc__law_right.nd rfl (Or.inl rfl) (pe_call G_wanted (hr.mono (by first | decide | omega)) rfl T.g_wanted k_wanted b_wanted .nil passL (pa_cons (pv 1) (pa_cons (pv 2) (pa_cons (pv 3) (pa_cons (pv 4) pa_nil))))))
    (pss_cons (ps_if (PW.pt (pw_or (pt_not (pt_chain op_le op_le (pv 3) (pv 5) (pv 4))) (pw_or (PW.pt (pw_and (pt_cmpR op_gt (pv 5) (pv 3) (nomark _)) (pw_and1 (pt_cmpR op_ge (pe_op op_mul (pe_op op_sub (pv 5) pe_int) (pv 2)) (pv 1) (nomark _))))) (pw_or1 (PW.pt (pw_and (pt_cmpR op_lt (pv 5) (pv 4) (nomark _)) (pw_and1 (pt_cmpR op_lt (pe_op op_mul (pv 5) (pv 2)) (pv 1) (nomark _))))))))) (pss_one (ps_ret pe_bl)) pss_nil)
    (pss_cons (ps_par3 (i := 6) (j := 7) (l := 8) (by rfl) sc__law_right.nd rfl rfl rfl (by decide) (by decide) (by decide) rfl rfl rfl (pa_cons (pe_call G__law_number (hr.mono (by first | decide | omega)) rfl T.g__law_number k__law_number b__law_number .nil pass0 (pa_cons (pv 0) pa_nil)) (pa_cons (pe_call G__law_draw (hr.mono (by first | decide | omega)) rfl T.g__law_draw k__law_draw b__law_draw .nil pass0 (pa_cons (pv 0) (pa_cons pe_int pa_nil))) (pa_cons (pe_call G__law_number (hr.mono (by first | decide | omega)) rfl T.g__law_number k__law_number b__law_number .nil pass0 (pa_cons (pv 0) pa_nil)) pa_nil))) (by rfl))
    (pss_cons (ps_set (i := 9) sc__law_right.nd rfl (Or.inl rfl) (pe_ifExp (pt_cmpR op_gt (pv 6) (pv 7) (nomark _)) (pe_op op_sub (pv 6) (pv 7)) pe_int))
    (pss_cons (ps_if (pt_cmpR op_ne (pe_call G_spare (hr.mono (by first | decide | omega)) rfl T.g_spare k_spare b_spare .nil passL (pa_cons (pv 6) (pa_cons (pv 7) (pa_cons (pv 8) pa_nil)))) (pe_ifExp (pt_cmpR op_gt (pv 8) (pv 9) (nomark _)) (pe_op op_sub (pv 8) (pv 9)) pe_int) (nomark _)) (pss_one (ps_ret pe_bl)) pss_nil)
    (pss_cons (ps_par (i := 10) (j := 11) (by rfl) sc__law_right.nd rfl rfl (by decide) rfl rfl (pa_cons (pe_call G__law_draw (hr.mono (by first | decide | omega)) rfl T.g__law_draw k__law_draw b__law_draw .nil pass0 (pa_cons (pv 0) (pa_cons pe_int pa_nil))) (pa_cons (pe_call G__law_number (hr.mono (by first | decide | omega)) rfl T.g__law_number k__law_number b__law_number .nil pass0 (pa_cons (pv 0) pa_nil)) pa_nil)) (by rfl))
    (pss_cons (ps_set (i := 12) sc__law_right.nd rfl (Or.inl rfl) (pe_op op_add (pv 11) (pe_call G__law_number (hr.mono (by first | decide | omega)) rfl T.g__law_number k__law_number b__law_number .nil pass0 (pa_cons (pv 0) pa_nil))))
    (pss_cons (ps_set (i := 13) sc__law_right.nd rfl (Or.inl rfl) (pe_call G_planned_for (hr.mono (by first | decide | omega)) rfl T.g_planned_for k_planned_for b_planned_for .nil passL (pa_cons (pv 6) (pa_cons (pv 10) (pa_cons (pv 12) (pa_cons (pv 11) pa_nil))))))
    (pss_cons (ps_if (pt_cmpR op_ge (pv 11) (pv 6) (nomark _)) (pss_one (ps_ret (pe_cmpR op_eq (pv 13) (pv 6) (nomark _)))) pss_nil)
    (pss_cons (ps_set (i := 14) sc__law_right.nd rfl (Or.inl rfl) (pe_op op_sub (pe_op op_add (pv 6) (pv 10)) (pv 12)))
    (pss_one (ps_ret (pe_and (pe_cmpR op_eq (pv 13) (pe_ifExp (pt_cmpR op_le (pv 14) pe_int (nomark _)) (pv 11) (pe_callB (call_min2 rfl) (by rfl) T.n_min (by decide +kernel) (pa_cons (pv 6) (pa_cons (pe_op op_add (pv 11) (pv 14)) pa_nil)))) (nomark _)) (pe_one (pe_chain op_le op_le (pv 11) (pv 13) (pv 6))))))))))))))))))), ?_⟩
  refine ⟨_, rfl, a, n, rfl, hw, (by omega), fun ld H1 n1 l0 l1 K1 w1 m1 => ?_⟩
  refine ⟨_, rfl, a, n1, rfl, w1, (by omega), fun am H2 n2 a0 a1 K2 w2 m2 => ?_⟩
  replace K2 := K1.trans K2
  refine ⟨_, _, rfl, rfl, _, _, rfl, _, rfl, a, n2, rfl, w2, (by omega), fun lo H3 n3 o0 o1 K3 w3 m3 => ?_⟩
  replace K3 := K2.trans K3
  refine ⟨_, rfl, _, rfl, a, n3, rfl, w3, (by omega), fun dh H4 n4 d0 d1 K4 w4 m4 => ?_⟩
  replace K4 := K3.trans K4
  refine ⟨_, _, rfl, rfl, _, rfl, _, rfl, _, rfl, _, rfl, ?_⟩
  refine ⟨_, _, _, _, rfl, .inl trivial, .inl trivial, .inl trivial, .inl trivial, (by rintro i ⟨⟩; omega), ?_, bad_no ?_⟩
  · rintro i j l m H5 ⟨⟩ ⟨⟩ ⟨⟩ ⟨⟩ _ _ _ _ S5
    refine ⟨fun aj _ => ?_, (by omega), (by omega)⟩
    have K5 := K4.trans (Keep.of S5)
    have w5 := well_same w4 S5
    have t1 := want_lo (l := ld) (a := 1 + am) (lo := lo) (hi := lo + dh) (by omega)
    have t2 := want_hi (l := ld) (a := 1 + am) (lo := lo) (hi := lo + dh) (by omega)
    have t3 := want_dn (l := ld) (lo := lo) (hi := lo + dh) aj
    have t4 := want_up (l := ld) (lo := lo) (hi := lo + dh) aj
    generalize wantI ld (1 + am) lo (lo + dh) = told at t1 t2 t3 t4 ⊢
    refine ⟨_, rfl, _, rfl, _, _, rfl, rfl, _, rfl, ?_⟩
    rw [decide_eq_true t1]
    refine iteT ⟨_, rfl, _, _, rfl, rfl, _, rfl, ?_⟩
    rw [decide_eq_true t2]
    refine iteF ⟨_, rfl, _, rfl, _, _, rfl, rfl, _, rfl, ite_q (iteF ?_) fun c1 b1 => ?_⟩
    rotate_left
    · have g1 := t3 (of_decide_eq_true c1)
      refine ⟨_, rfl, _, _, rfl, rfl, _, rfl, _, _, rfl, rfl, .inl ⟨by omega, by omega⟩, _, rfl, _, _, rfl, rfl, _, rfl, ?_⟩
      rw [decide_eq_false (by omega)]
      exact b1
    refine ⟨_, rfl, _, rfl, _, _, rfl, rfl, _, rfl, ite_q (iteF ?_) fun c2 b2 => ?_⟩
    rotate_left
    · have g1 := t4 (of_decide_eq_true c2)
      refine ⟨_, rfl, _, rfl, _, _, rfl, rfl, .inl ⟨by omega, by omega⟩, _, rfl, _, _, rfl, rfl, _, rfl, ?_⟩
      rw [decide_eq_false (by omega)]
      exact b2
    show tSeq _ _ _ _ _
    refine at_st (σ' := [some (.ref a), some (.int ld), some (.int (1 + am)), some (.int lo), some (.int (lo + dh)), some (.int told), none, none, none, none, none, none, none, none, none]) rfl ?_
    refine ⟨_, rfl, a, n4, rfl, w5, (by omega), fun rp H6 n6 e0 e1 K6 w6 m6 => ?_⟩
    replace K6 := K5.trans K6
    refine ⟨_, rfl, a, n6, 5, rfl, w6, (by omega), by decide, by decide, fun dn u7 n7 f0 f1 m7 hu7 => ?_⟩
    have w7 := well_upd (H := H6) (a := a) hu7
    have K7 := K6.trans (Keep.at_ (u := u7))
    generalize upd H6 a u7 = H7 at w7 K7 ⊢
    refine ⟨_, rfl, a, n7, rfl, w7, (by omega), fun rd H8 n8 g0 g1 K8 w8 m8 => ?_⟩
    replace K8 := K7.trans K8
    refine ⟨_, _, _, rfl, _, rfl, _, rfl, _, _, rfl, rfl, _, rfl, tIf_int (rp - dn) 0 (fun least z1 z2 => ?_) (fun _ h => ⟨_, rfl, _, rfl, _, _, rfl, rfl, h⟩) (fun _ h => h)⟩
    have hle : least = max 0 (rp - dn) := by
      by_cases c : dn < rp
      · rw [z1 (decide_eq_true c)]; omega
      · rw [z2 (decide_eq_false c)]; omega
    refine ⟨_, rfl, _, rfl, _, rfl, _, _, _, rfl, .inl trivial, .inl trivial, .inl trivial, ?_, bad_no ?_⟩
    rotate_left
    · intro p hp
      simp only [List.mem_cons, List.not_mem_nil, or_false] at hp
      rcases hp with rfl | rfl | rfl <;> exact decide_eq_true (by omega)
    rintro i j l H9 ⟨⟩ ⟨⟩ ⟨⟩ _ _ _ S9
    have K9 := K8.trans (Keep.of S9)
    have w9 := well_same w8 S9
    refine ⟨_, rfl, _, rfl, _, _, rfl, rfl, _, rfl, tIf_int (rd - least) 0 (fun sp z1 z2 => ?_) (fun _ h => ⟨_, rfl, _, rfl, _, _, rfl, rfl, h⟩) (fun _ h => h)⟩
    have hsp : sp = max 0 (rd - max 0 (rp - dn)) := by
      by_cases c : least < rd
      · rw [z1 (decide_eq_true c)]; omega
      · rw [z2 (decide_eq_false c)]; omega
    subst hsp
    refine ⟨rfl, _, rfl, ?_⟩
    rw [decide_eq_true (rfl : V.int (max 0 (rd - max 0 (rp - dn))) = _)]
    clear z1 z2
    clear hle t3 t4
    refine iteF ?_
    show tSeq _ _ _ _ _
    refine at_st (σ' := [some (.ref a), some (.int ld), some (.int (1 + am)), some (.int lo), some (.int (lo + dh)), some (.int told), some (.int rp), some (.int dn), some (.int rd), some (.int least), none, none, none, none, none]) rfl ?_
    refine ⟨_, rfl, a, n8, 5, rfl, w9, (by omega), by decide, by decide, fun sg ua na h0 h1 ma hua => ?_⟩
    have wa := well_upd (H := H9) (a := a) hua
    have Ka := K9.trans (Keep.at_ (u := ua))
    generalize upd H9 a ua = Ha at wa Ka ⊢
    refine ⟨_, rfl, a, na, rfl, wa, (by omega), fun hv Hb nb i0 i1 Kb wb mb => ?_⟩
    replace Kb := Ka.trans Kb
    refine ⟨_, _, rfl, _, rfl, _, rfl, a, nb, rfl, wb, (by omega), fun dp Hc nc j0 j1 Kc wc mc => ?_⟩
    replace Kc := Kb.trans Kc
    refine ⟨_, _, rfl, rfl, _, rfl, _, rfl, _, rfl, _, rfl, ?_⟩
    refine ⟨_, _, _, _, rfl, .inl trivial, .inl trivial, .inl trivial, .inl trivial, ?_, bad_no ?_⟩
    rotate_left
    · intro p hp
      simp only [List.mem_cons, List.not_mem_nil, or_false] at hp
      rcases hp with rfl | rfl | rfl | rfl <;> exact decide_eq_true (by omega)
    rintro i j l m Hd ⟨⟩ ⟨⟩ ⟨⟩ ⟨⟩ _ _ _ _ Sd
    refine ⟨fun _ => ?_, (by omega)⟩
    have Kd := Kc.trans (Keep.of Sd)
    have wd := well_same wc Sd
    have fin := k Hd nc Kd wd (by omega)
    clear Kd wd Kc wc Kb wb Ka wa K9 w9
    show tSeq _ _ _ _ _
    refine at_st (σ' := [some (.ref a), some (.int ld), some (.int (1 + am)), some (.int lo), some (.int (lo + dh)), some (.int told), some (.int rp), some (.int dn), some (.int rd), some (.int least), some (.int sg), some (.int hv), some (.int (hv + dp)), some (.int (planI rp sg (hv + dp) hv)), none]) rfl ?_
    refine ⟨_, rfl, _, rfl, _, _, rfl, rfl, _, rfl, ite2 (fun c => ?_) fun c => ?_⟩
    · rw [plan_ge (by simpa using c)]
      refine ⟨_, rfl, _, rfl, rfl, ?_⟩
      rw [decide_eq_true (rfl : V.int rp = _)]
      exact fin
    · replace c : hv < rp := by simpa using c
      have e := plan_lt (s := sg) (p := hv + dp) c
      have e1 := plan_lo (s := sg) (p := hv + dp) c
      have e2 := plan_hi (r := rp) (s := sg) (p := hv + dp) (h := hv)
      generalize planI rp sg (hv + dp) hv = gv at e e1 e2 ⊢
      refine ⟨_, rfl, _, rfl, _, _, rfl, rfl, _, rfl, _, _, rfl, rfl, _, rfl, _, rfl, _, _, rfl, rfl, _, rfl, tIf_int hv (min rp (hv + (rp + sg - (hv + dp)))) (fun z z1 z2 => ?_) (fun _ h => ⟨_, rfl, h⟩) (fun _ h => ⟨_, rfl, _, rfl, _, rfl, _, _, rfl, rfl, _, _, rfl, by rw [min_if]; exact h⟩)⟩
      have hz : z = gv := by
        by_cases c' : rp + sg - (hv + dp) ≤ 0
        · rw [e, if_pos c']; exact z1 (decide_eq_true c')
        · rw [e, if_neg c']; exact z2 (decide_eq_false c')
      rw [hz]
      refine ⟨rfl, _, rfl, ?_⟩
      rw [decide_eq_true (rfl : V.int gv = _)]
      refine iteT ⟨_, rfl, _, rfl, _, _, rfl, rfl, _, rfl, ?_⟩
      rw [decide_eq_true e1]
      refine iteT ⟨_, rfl, _, _, rfl, rfl, ?_⟩
      show Q (.bl (decide (gv ≤ rp))) Hd
      rw [decide_eq_true e2]
      exact fin
  · intro p hp
    simp only [List.mem_cons, List.not_mem_nil, or_false] at hp
    rcases hp with rfl | rfl | rfl | rfl <;> exact decide_eq_true (by omega)

/-! ### isinstance of a caught error with a dict of its own -/
def rIsED (K : PySem.W.Frag) (D a : Addr) (cls : Value) (d : Option Addr) : List V → Hp → VK → Prop := fun xs H Q => ∃ (c : V) (cv : Value) (b : Bool) (dd : Addr) (fs : List (Str × V)), xs = [.ref a, c] ∧ cls = .ref D ∧ d = some dd ∧ H dd = some (.xd fs) ∧ (∀ u, RelV c u → u = cv) ∧ PySem.W.kitOne K (.ref D) cv = some b ∧ Q (.bl b) H
/-- the six things that excB tells of a class -/
structure ExcSays (K : PySem.W.Frag) (C : Addr) : Prop where
  cls : (PySem.W.clsIn K C).isSome = true
  field : XfC K C
  at_ : PySem.W.findIn K (.ref C) "__class__" = some (some (.builtin "object.__class__"))
  get_ : PySem.W.specialIn K (.builtin "object.__class__") "__get__" = some (some (.builtin "getset_descriptor.__get__"))
  takes : PySem.W.takesIn K (.builtin "object.__class__") = some true
  mro : PySem.W.mroIn K C (.type "object") = some true
theorem excSays {K : PySem.W.Frag} {C : Addr} (h : excB K C = true) : ExcSays K C := by
  simp only [excB, Bool.and_eq_true, decide_eq_true_eq] at h
  exact ⟨h.1, xfB_ok h.2.1, h.2.2.1, h.2.2.2.1, h.2.2.2.2.1, h.2.2.2.2.2⟩
theorem call_isED {X : Cx} {a D : Addr} {oe : Obj} {cls : Value} {d : Option Addr} {pn : List (Addr × Obj)} (C : excB X.K D = true) (hz : Zc cls d oe) (hf : ∃ vs, oe.data = .fields vs) : CallR (X.suite a ((a, oe) :: pn)) (.builtin "isinstance") (rIsED X.K D a cls d) :=
  fun pins s σ H xs us Q I vals ⟨c, cv, b, dd, fs, exs, ecls, ed, told, one, kit, want⟩ => by
    subst exs ecls ed
    obtain ⟨_, rest1, rfl, self_, vals2⟩ : ∃ u r, us = u :: r ∧ RelV (.ref a) u ∧ Vals [c] r := by cases vals with | cons r1 r2 => exact ⟨_, _, rfl, r1, r2⟩
    obtain ⟨u, rfl, ru⟩ := vals1 vals2
    cases self_
    cases one u ru
    have S := excSays C
    have ⟨there, _⟩ := I.pin (a, oe) (List.mem_append_left _ List.mem_cons_self)
    have ⟨_, fields⟩ := hf
    have ⟨_, ns, _⟩ : ObjOk X.prog X.w H s.heap dd (.xd fs) := I.hok dd _ told
    have ⟨od, own, _⟩ := lookIn_ns ns
    have inst : PySem.W.InstAt s.heap a oe D (some od) := ⟨there, hz.1, by simp only [PySem.W.notCls, fields], by rw [hz.2]; exact own⟩
    exact PySem.W.kia_one (PySem.W.kitx_exc S.cls S.field.ga S.field.gg S.field.exC S.at_ S.get_ S.takes S.mro) I.kIn inst kit (fun z => nomatch z) fun tk => ⟨.bl b, H, I.kept (t' := tk) fun _ _ same => same, rfl, want⟩
/-! ### _law_refused -/
def TRef (K : PySem.W.Frag) : (XK → Hp → VK → Prop) → Hp → VK → Prop := fun tl H Q =>
  tl (fun cls d H' => cls = .ref (cBV K) ∧ ∃ dd y, d = some dd ∧ H' dd = some (.xd [("why", .str y)]) ∧ ∀ H'', Same H' H'' → Q (.str y) H'') H (fun _ H' => Q (.str "ok") H')
theorem xf_of {K : PySem.W.Frag} {C : Addr} (h : excB K C = true) : XfC K C := (excSays h).field
theorem takes_len {X : Cx} {W : WX} (t : Takes X W) : Takes X (fun c d σ H => σ.length = X.N.length → W c d σ H) := fun u s' ⟨a, B, sI, pins, σ, H, cls, d, e, I, nb, up, sky, na, os, ag, w⟩ =>
  t u s' ⟨a, B, sI, pins, σ, H, cls, d, e, I, nb, up, sky, na, os, ag, w I.len⟩
theorem refused_gives {X : Cx} {q : Str} {g : Addr} {cdg : Value} (T : Txt X.K X.mg) : LamX.GivesTo X N__law_refused "_law_refused" (defScope s__law_refused) g cdg (defBody s__law_refused) "_law_call" q (TRef X.K) := by
  intro f c' s H Q tl act hc h
  have O := exTxt T
  have XF := xf_of O.exc
  refine ⟨_, pss_cons (ps_try_as (X := (cxOf C8.CX0 X.prog X.w X.K X.mg X.base N__law_refused "_law_refused" (defScope s__law_refused) g cdg X.A X.stack s H C8.E0).nox) (i := 1) (c := .ref (He.ga X.K "PlaneError")) (Wout := fun _ _ _ _ => False)
      (tb := fun W D σ H => ∃ Ech : XK, (∀ cls d (σ' : L2.St) H', Ech cls d H' → σ'.length = 3 → W cls d σ' H') ∧ σ[0]? = some (some (.ref f)) ∧ H c' = some (LamX.CodeO c' q) ∧ tl Ech H (fun _ H' => D.nx σ H'))
      rfl rfl sc__law_refused.nd rfl rfl ⟨rfl, by decide, .inl T.g_PlaneError⟩ LamX.takes0 (fun W pn xe tk _ => ?_)
      (fun a oe cls d pn hz hf => pss_cons (ps_set (i := 2) sc__law_refused.nd rfl (Or.inl rfl) (pe_lst (pa_cons (pe_callB (call_isED O.exc hz hf) (by rfl) T.n_isinstance (by decide +kernel) (pa_cons (pv 1) (pa_cons (pe_glob rfl T.g_BadField (v := .ref (He.ga X.K "BadField")) rfl) pa_nil)))
          (pa_cons (pe_callB (call_isED O.exc hz hf) (by rfl) T.n_isinstance (by decide +kernel) (pa_cons (pv 1) (pa_cons (pe_glob rfl T.g_BadKey (v := .ref (He.ga X.K "BadKey")) rfl) pa_nil)))
          (pa_cons (pe_callB (call_isED O.exc hz hf) (by rfl) T.n_isinstance (by decide +kernel) (pa_cons (pv 1) (pa_cons (pe_glob rfl T.g_BadKind (v := .ref (He.ga X.K "BadKind")) rfl) pa_nil)))
          (pa_cons (pe_callB (call_isED O.exc hz hf) (by rfl) T.n_isinstance (by decide +kernel) (pa_cons (pv 1) (pa_cons (pe_glob rfl T.g_BadName (v := .ref (He.ga X.K "BadName")) rfl) pa_nil))) pa_nil))))))
        (pss_cons (ps_if (PW.pt (pw_or (pt_cmpR (show OpR _ _ (rIn X.K false) from op_in_seq) pe_bl (pv 2) (by rfl)) (pw_or (pt_not (pt_val (pe_callB (call_isED O.exc hz hf) (by rfl) T.n_isinstance (by decide +kernel) (pa_cons (pv 1) (pa_cons (pe_bltn rfl T.n_ValueError (by decide +kernel) (v := .ty "ValueError") rfl) pa_nil)))))
            (pw_or1 (pt_not (pt_val (pe_callB (call_isED O.exc hz hf) (by rfl) T.n_isinstance (by decide +kernel) (pa_cons (pv 1) (pa_cons (pe_glob rfl T.g_BadValue (v := .ref (He.ga X.K "BadValue")) rfl) pa_nil))))))))) (pss_one (ps_ret pe_str)) pss_nil)
        (pss_one (ps_ret (pe_xf XF O.noW hz hf (pv 1))))))) (pss_one (ps_ret pe_str)), ?_⟩
  · refine ⟨fun pins s' σ H' D I h' => ?_⟩
    obtain ⟨Ech, hW, h1, h2, h3⟩ := h'
    exact (pss_one (ps_expr (act _ pn xe Ech _ _ (takes_len tk) hW))).run pins s' σ H' D I ⟨h1, h2, h3⟩
  · refine ⟨_, fun cls d σ' H' hE hl => ?_, rfl, hc, h⟩
    obtain ⟨rfl, dd, y, rfl, hdd, k⟩ := hE
    match σ', hl with
    | [x0, x1, x2], _ =>
    refine ⟨true, O.exm, fun _ a na => ?_, fun z => by cases z⟩
    refine ⟨_, rfl, _, _, false, dd, _, rfl, rfl, rfl, hdd, (fun u r => by cases r; rfl), O.i1, ?_⟩
    refine ⟨_, rfl, _, _, false, dd, _, rfl, rfl, rfl, hdd, (fun u r => by cases r; rfl), O.i2, ?_⟩
    refine ⟨_, rfl, _, _, false, dd, _, rfl, rfl, rfl, hdd, (fun u r => by cases r; rfl), O.i3, ?_⟩
    refine ⟨_, rfl, _, _, false, dd, _, rfl, rfl, rfl, hdd, (fun u r => by cases r; rfl), O.i4, ?_⟩
    refine ⟨smallN (by show 4 ≤ 1000; decide), fun p hp => ?_⟩
    have S := Same.new (u := .lst [.bl false, .bl false, .bl false, .bl false]) hp
    have hd2 := S _ _ hdd
    refine ⟨_, rfl, p, _, rfl, .inl (SqL.of upd_same), rfl, rfl, _, rfl, iteF ?_⟩
    refine ⟨_, rfl, _, _, true, dd, _, rfl, rfl, rfl, hd2, (fun u r => by cases r; rfl), O.i5, _, rfl, iteF ?_⟩
    refine ⟨_, rfl, _, _, true, dd, _, rfl, rfl, rfl, hd2, (fun u r => by cases r; rfl), O.i6, _, rfl, iteF ?_⟩
    exact ⟨_, rfl, rfl, rfl, dd, _, _, rfl, hd2, rfl, k _ S⟩

/-! ### the def that makes lambdas -/
abbrev cLm (K : PySem.W.Frag) : Addr := He.codeOf K ("_law_bad_right", none)
abbrev pLm (K : PySem.W.Frag) : Addr := He.tabOf K (cLm K)
abbrev TbB (K : PySem.W.Frag) (mg : Str → Option Value) (base : Heap) : Prop := LamX.TabB base mg (cLm K) (pLm K)
abbrev TLs (K : PySem.W.Frag) : List (Addr × Str) := [(pLm K, "_law_bad_right" ++ ".<locals>." ++ "<lambda>")]
/-- a def that makes lambdas, by fn_of: its code value is the one that the written part names -/
theorem okL {P : Program} {w : World} {K : PySem.W.Frag} {mg : Str → Option Value} {base : Heap} {CX : CXT} {k : Nat} {p : Str × Option Str} {fd : FuncData} {ps : List Str} {sp : Sp} {x qual : Str} {params : Arguments} {body : List Stmt} {scope : Scope} {dvs : List V} {kws : List (Str × V)} {N : List Str}
    (F : FunD K x qual params body scope dvs kws (He.fAd K p) fd) (S : FnScope N ps scope) (len : ∀ vs H Q E, sp vs H Q E → vs.length = ps.length)
    (walk : ∀ (A : Around) (outer : List Env) (s : Shared) (H : Hp) (vs : List V) (Q : VK) (E : XK), Room k (A.deeper (envOfC qual scope s.heap.objs.size (He.fAd K p) (.ref (He.codeOf K p)))) → sp vs H Q E →
      ∃ t, PSs (cxOf CX P w K mg base N qual scope (He.fAd K p) (.ref (He.codeOf K p)) A outer s H E) body t ∧ t { nx := fun _ H' => Q .non H', rt := Q } (L2.start N vs) H) : FnOk P w K mg base CX (k + 1) (He.fAd K p) fd ps sp := by
  obtain ⟨_, _, _, _, _, _, _, cdv, _, _, rfl, there, code, _⟩ := F.ex
  have named : cdv = .ref (He.codeOf K p) := by obtain ⟨c, rfl⟩ := He.codeIn_ref code; exact congrArg Value.ref (He.codeOf_eq there rfl).symm
  exact fn_of there code S len fun A outer s H vs Q E => by subst named; exact walk A outer s H vs Q E
theorem ga_fAd (K : PySem.W.Frag) (x : Str) : He.ga K x = He.fAd K (x, none) := rfl
/-- the tables and their code objects stay where the source of draws is written -/
theorem tabs_keep {T : List (Addr × Str)} {a : Addr} {n : Nat} {H H' : Hp} (w : WellAt H a n) (k : Keep a H H') (t : LamX.Tabs T H) : LamX.Tabs T H' := fun p hp => by
  obtain ⟨ps, h1, h2, h3⟩ := t p hp
  obtain ⟨u, hu, x, y, rfl, _⟩ := w
  refine ⟨ps, k _ _ (fun z => by rw [z, hu] at h1; cases h1) h1, h2, fun pos cv hc => ?_⟩
  obtain ⟨c, e, hcc⟩ := h3 pos cv hc
  exact ⟨c, e, k _ _ (fun z => by rw [z, hu] at hcc; cases hcc) hcc⟩
/-- all but the source and the tables stays -/
def KeepN (a : Addr) (H H' : Hp) : Prop := ∀ b o, b ≠ a → (∀ ps, o ≠ .tbl ps) → H b = some o → H' b = some o
theorem KeepN.of {a : Addr} {H H' : Hp} (k : Keep a H H') : KeepN a H H' := fun b o n _ h => k b o n h
theorem KeepN.ext {a : Addr} {H H' : Hp} (k : LamX.ExtN H H') : KeepN a H H' := fun b o _ n h => k b o h n
theorem KeepN.trans {a : Addr} {H H1 H2 : Hp} (x : KeepN a H H1) (y : KeepN a H1 H2) : KeepN a H H2 := fun b o n m h => y b o n m (x b o n m h)
theorem well_extN {a : Addr} {n : Nat} {H H' : Hp} (w : WellAt H a n) (x : LamX.ExtN H H') : WellAt H' a n := by
  obtain ⟨u, hu, y, z, rfl, o⟩ := w
  exact ⟨_, x _ _ hu (fun _ z => by cases z), y, z, rfl, o⟩
/-- one of the wrong values -/
def BadV (H : Hp) (y : V) : Prop := goodC y = false ∧ (flat y ∨ ∃ b, y = .ref b ∧ (H b = some (.lst []) ∨ H b = some (.tup [.int 1]) ∨ H b = some (.dK [])))
theorem BadV.vl {H : Hp} {y : V} (h : BadV H y) : Vl H y := by
  rcases h.2 with f | ⟨b, e, q | q | q⟩
  · exact .inl f
  · exact .inr ⟨b, e, .inl ⟨_, q⟩⟩
  · exact .inr ⟨b, e, .inr (.inl ⟨_, q⟩)⟩
  · exact .inr ⟨b, e, .inr (.inr ⟨_, q⟩)⟩
theorem BadV.keep {a : Addr} {n : Nat} {H H' : Hp} {y : V} (w : WellAt H a n) (k : KeepN a H H') (h : BadV H y) : BadV H' y := by
  obtain ⟨u, hu, x, z, rfl, _⟩ := w
  refine ⟨h.1, ?_⟩
  rcases h.2 with f | ⟨b, e, q | q | q⟩
  · exact .inl f
  · exact .inr ⟨b, e, .inl (k _ _ (fun z => by rw [z, hu] at q; cases q) (fun _ z => by cases z) q)⟩
  · exact .inr ⟨b, e, .inr (.inl (k _ _ (fun z => by rw [z, hu] at q; cases q) (fun _ z => by cases z) q))⟩
  · exact .inr ⟨b, e, .inr (.inr (k _ _ (fun z => by rw [z, hu] at q; cases q) (fun _ z => by cases z) q))⟩
theorem BadV.upd {D : Addr} {H : Hp} {y : V} {o : HO} (n : y ≠ .ref D) (h : BadV H y) : BadV (upd H D o) y := by
  refine ⟨h.1, ?_⟩
  rcases h.2 with f | ⟨b, e, q⟩
  · exact .inl f
  · exact .inr ⟨b, e, by rw [upd_ne (fun z => n (by rw [e, z]))]; exact q⟩
theorem good_i (i : Int) : goodC (.int i) = decide (0 ≤ i) := rfl
/-- the values of a case: good ones, a wrong one, any -/
abbrev good4 : List V := [.int 3, .int 2, .int 1, .int 5]
structure Some4 (odd : List V) (i : Nat) (s0 s1 s2 s3 : V) : Prop where
  mem : ∀ y ∈ [s0, s1, s2, s3], y ∈ good4 ∨ y ∈ odd
  b4 : ∀ n0 n1 n2 n3 : Str, firstBad [(n0, s0), (n1, s1), (n2, s2), (n3, s3)] = [n0, n1, n2, n3][i]?
  b3 : ∀ n0 n1 n2 : Str, firstBad [(n0, s0), (n1, s1), (n2, s2)] = [n0, n1, n2][i]?
theorem some4 {odd ys : List V} (hl : odd.length = 4) (hb : ∀ y ∈ odd, goodC y = false) (hy : ys = good4 ∨ ys = odd) : ∀ i : Nat, i < 4 → ∃ s0 s1 s2 s3, cutV good4 none (some (i : Int)) ++ cutV odd (some (i : Int)) (some ((i : Int) + 1)) ++ cutV ys (some ((i : Int) + 1)) none = [s0, s1, s2, s3] ∧ Some4 odd i s0 s1 s2 s3 := by
  match odd, hl with
  | [o0, o1, o2, o3], _ =>
  have h0 := hb o0 (by simp)
  have h1 := hb o1 (by simp)
  have h2 := hb o2 (by simp)
  have h3 := hb o3 (by simp)
  intro i hi
  have i4 : i = 0 ∨ i = 1 ∨ i = 2 ∨ i = 3 := by omega
  rcases hy with rfl | rfl <;> rcases i4 with rfl | rfl | rfl | rfl
  all_goals refine ⟨_, _, _, _, rfl, ?_, ?_, ?_⟩
  all_goals first | (intro y hy; simp only [List.mem_cons, List.not_mem_nil, or_false, good4] at hy ⊢; rcases hy with rfl | rfl | rfl | rfl <;> simp) | (intros; simp [firstBad, good_i, h0, h1, h2, h3])
theorem ref_raised {K : PySem.W.Frag} {H8 : Hp} {Q : VK} {q : Str} (h : ∀ H'', Same H8 H'' → Q (.str q) H'') : Raised K H8 (fun cls d H' => cls = .ref (cBV K) ∧ ∃ dd y, d = some dd ∧ H' dd = some (.xd [("why", .str y)]) ∧ ∀ H'', Same H' H'' → Q (.str y) H'') q :=
  fun d H' S hd => ⟨rfl, d, q, rfl, hd, fun H'' S'' => h H'' (Same.trans' S S'')⟩
theorem Some4.vl {odd : List V} {i : Nat} {s0 s1 s2 s3 : V} (R : Some4 odd i s0 s1 s2 s3) {H : Hp} (hb : ∀ y ∈ odd, BadV H y) : ∀ y ∈ [s0, s1, s2, s3], Vl H y := fun y hy => by
  rcases R.mem y hy with h | h
  · simp only [good4, List.mem_cons, List.not_mem_nil, or_false] at h
    rcases h with rfl | rfl | rfl | rfl <;> exact .inl trivial
  · exact (hb y h).vl
theorem Some4.low {odd : List V} {i : Nat} {s0 s1 s2 s3 : V} (R : Some4 odd i s0 s1 s2 s3) (hb : ∀ y ∈ odd, goodC y = false) : ∀ z, s1 = .int z → z ≤ 1000000000 := fun z e => by
  rcases R.mem s1 (by simp) with h | h
  · rw [e] at h
    simp only [good4, List.mem_cons, List.not_mem_nil, or_false, V.int.injEq] at h
    omega
  · have g := hb _ h
    rw [e, good_i] at g
    have g := of_decide_eq_false g
    omega
theorem good_none {l : List (Str × V)} (h : ∀ p ∈ l, goodC p.2 = true) : firstBad l = none := by
  induction l with
  | nil => rfl
  | cons p r ih =>
    unfold firstBad
    rw [if_pos (h p (by simp))]
    exact ih fun q hq => h q (by simp [hq])
theorem at4 {n0 n1 n2 n3 q : Str} {i : Nat} (e : [n0, n1, n2, n3][i]? = some q) : atI [V.str n0, .str n1, .str n2, .str n3] (i : Int) = some (.str q) := atI_nat (j := i) (by
  have h : ([n0, n1, n2, n3].map V.str)[i]? = some (.str q) := by rw [List.getElem?_map, e]; rfl
  exact h)
theorem due3 {n0 n1 n2 n3 q q0 : Str} {i : Nat} (e : [n0, n1, n2][i]? = some q) (e0 : [n0, n1, n2, n3][i]? = some q0) : q = q0 := by
  match i with
  | 0 => simp at e e0; rw [← e, ← e0]
  | 1 => simp at e e0; rw [← e, ← e0]
  | 2 => simp at e e0; rw [← e, ← e0]
  | i + 3 => simp at e
theorem due0 {n0 n1 n2 n3 q0 : Str} {i : Nat} (e : [n0, n1, n2][i]? = none) (e0 : [n0, n1, n2, n3][i]? = some q0) : q0 = n3 := by
  match i with
  | 0 => simp at e
  | 1 => simp at e
  | 2 => simp at e
  | 3 => simp at e0; exact e0.symm
  | i + 4 => simp at e0
def sp__law_bad_right (K : PySem.W.Frag) : Sp := fun vs H Q _ => ∃ (a : Addr) (n : Nat), vs = [.ref a] ∧ WellAt H a n ∧ n < 800000 ∧ LamX.Tabs (TLs K) H ∧
  ∀ (H' : Hp) (n' : Nat), KeepN a H H' → WellAt H' a n' → n' ≤ n + 12 → LamX.Tabs (TLs K) H' → Q (.bl true) H'
theorem ok__law_bad_right {P : Program} {w : World} {K : PySem.W.Frag} {mg : Str → Option Value} {base : Heap} {fd : FuncData} (T : Txt K mg) (F : FnP K "_law_bad_right" s__law_bad_right [] fd) (TB : TbB K mg base) : FnOk P w K mg base CX0 7 (He.ga K "_law_bad_right") fd ps__law_bad_right (sp__law_bad_right K) := by
  obtain ⟨fd__law_pick, F__law_pick⟩ := T.d__law_pick
  have G__law_pick := ok__law_pick (P := P) (w := w) (base := base) T F__law_pick
  have k__law_pick := F__law_pick.kp
  have b__law_pick := bi__law_pick F__law_pick
  obtain ⟨fd_planned_for, F_planned_for⟩ := T.d_planned_for
  have G_planned_for := ok_planned_for (P := P) (w := w) (base := base) T F_planned_for
  have k_planned_for := F_planned_for.kp
  have b_planned_for := bi_planned_for F_planned_for
  obtain ⟨fd_wanted, F_wanted⟩ := T.d_wanted
  have G_wanted := ok_wanted (P := P) (w := w) (base := base) T F_wanted
  have k_wanted := F_wanted.kp
  have b_wanted := bi_wanted F_wanted
  obtain ⟨fd_spare, F_spare⟩ := T.d_spare
  have G_spare := ok_spare (P := P) (w := w) (base := base) T F_spare
  have k_spare := F_spare.kp
  have b_spare := bi_spare F_spare
  obtain ⟨fd__law_refused, F__law_refused⟩ := T.d__law_refused
  have k__law_refused := F__law_refused.kp
  have b__law_refused := bi__law_refused F__law_refused
  obtain ⟨_, _, _, _, _, _, _, _, _, _, rfl, lk__law_refused, hcg__law_refused, _, _⟩ := F__law_refused.ex
  have vis__law_refused : Vis (defScope s__law_refused) "_law_call" := Or.inl rfl
  refine okL (p := ("_law_bad_right", none)) F sc__law_bad_right (fun vs H Q E h => ?len) (fun A outer s H vs Q E hr h => ?body)
  case len => obtain ⟨a, n, rfl, hw, hn, hT, k⟩ := h; rfl
  case body =>
  obtain ⟨a, n, rfl, hw, hn, hT, k⟩ := h
  have hu := hu_of hr
  refine ⟨_, PSs.nox (pss_cons (ps_setLc (i := 1) (own := [("_law_k", 7)]) rfl sc__law_bad_right.nd rfl rfl (sw_true rfl rfl rfl (by decide +kernel)) (pi_range1 rfl T.n_range (pa_cons pe_int pa_nil)) (blkOk_by (own := [("_law_k", 7)]) (N := N__law_bad_right) (sc := defScope s__law_bad_right) (by decide +kernel)) (fun _ _ _ _ _ => (pg_name (i := 7) sc__law_bad_right.nd rfl (Or.inl rfl))) (fun _ _ _ _ _ => pts_nil) (fun _ _ _ _ _ => (pe_call G__law_pick (hr.mono (by first | decide | omega)) rfl T.g__law_pick k__law_pick b__law_pick .nil pass0 (pa_cons (pv 0) (pa_cons (pe_lst (pa_cons pe_non (pa_cons (pe_un un_neg pe_int) (pa_cons pe_bl (pa_cons pe_str (pa_cons (pe_lst pa_nil) (pa_cons pe_dnewK (pa_cons (pe_tup (pa_cons pe_int pa_nil)) (pa_cons pe_bl pa_nil))))))))) pa_nil)))))
    (pss_cons (ps_set (i := 2) sc__law_bad_right.nd rfl (Or.inl rfl) (pe_lst (pa_cons pe_int (pa_cons pe_int (pa_cons pe_int (pa_cons pe_int pa_nil))))))
    (pss_cons (ps_set (i := 3) sc__law_bad_right.nd rfl (Or.inl rfl) (pe_lst (pa_cons (pe_tup (pa_cons pe_str (pa_cons pe_str (pa_cons pe_str (pa_cons pe_str pa_nil))))) (pa_cons (pe_tup (pa_cons pe_str (pa_cons pe_str (pa_cons pe_str (pa_cons pe_str pa_nil))))) pa_nil))))
    (pss_cons (ps_for PassesOwn.never rfl (pi_range1 rfl T.n_range (pa_cons pe_int pa_nil)) (pg_name (i := 4) sc__law_bad_right.nd rfl (Or.inl rfl))
      (pss_cons (ps_set (i := 5) sc__law_bad_right.nd rfl (Or.inr rfl) (pe_op op_cat (pe_op op_cat (pe_slice sl_list (pv 2) po_none (po_some (pv 4))) (pe_slice sl_list (pv 1) (po_some (pv 4)) (po_some (pe_op op_add (pv 4) pe_int)))) (pe_slice sl_list (pe_call G__law_pick (hr.mono (by first | decide | omega)) rfl T.g__law_pick k__law_pick b__law_pick .nil pass0 (pa_cons (pv 0) (pa_cons (pe_lst (pa_cons (pv 2) (pa_cons (pv 1) pa_nil))) pa_nil))) (po_some (pe_op op_add (pv 4) pe_int)) po_none)))
        (pss_cons (ps_if (pt_cmpR op_ne (LamX.pe_lamcall (T := TLs K) (k := 4) (c := cLm K) (P := pLm K) rfl T.g__law_refused k__law_refused lk__law_refused hcg__law_refused b__law_refused sc__law_refused rfl vis__law_refused (refused_gives T) TB rfl (List.mem_singleton.mpr rfl) (fun p hp _ => by rw [List.mem_singleton.mp hp]; rfl) (hr.mono (by first | decide | omega)) (LamX.lamS_by (by show LamX.lamSB (defScope s__law_bad_right) _ = true; decide +kernel)) rfl (fun _ _ _ _ _ => rfl) (fun _ _ _ _ _ _ _ hr2 => (pe_call G_wanted (hr2.mono (by decide)) rfl T.g_wanted k_wanted b_wanted .nil (passes_call (takes_of rfl rfl rfl rfl) (fun _ _ _ _ h => h)) (pa_cons (pe_ix (show IxR _ (rIxL K) from ix_list) (pv 5) pe_int (fun _ _ => rfl)) (pa_cons (pe_ix (show IxR _ (rIxL K) from ix_list) (pv 5) pe_int (fun _ _ => rfl)) (pa_cons (pe_ix (show IxR _ (rIxL K) from ix_list) (pv 5) pe_int (fun _ _ => rfl)) (pa_cons (pe_ix (show IxR _ (rIxL K) from ix_list) (pv 5) pe_int (fun _ _ => rfl)) pa_nil))))))) (pe_ix ix_tup (pe_ix ix_list (pv 3) pe_int (fun _ _ => rfl)) (pv 4) (fun _ _ => rfl)) (nomark _)) (pss_one (ps_ret pe_bl)) pss_nil)
        (pss_cons (ps_if (pt_cmpR op_ne (LamX.pe_lamcall (T := TLs K) (k := 4) (c := cLm K) (P := pLm K) rfl T.g__law_refused k__law_refused lk__law_refused hcg__law_refused b__law_refused sc__law_refused rfl vis__law_refused (refused_gives T) TB rfl (List.mem_singleton.mpr rfl) (fun p hp _ => by rw [List.mem_singleton.mp hp]; rfl) (hr.mono (by first | decide | omega)) (LamX.lamS_by (by show LamX.lamSB (defScope s__law_bad_right) _ = true; decide +kernel)) rfl (fun _ _ _ _ _ => rfl) (fun _ _ _ _ _ _ _ hr2 => (pe_call G_planned_for (hr2.mono (by decide)) rfl T.g_planned_for k_planned_for b_planned_for .nil (passes_call (takes_of rfl rfl rfl rfl) (fun _ _ _ _ h => h)) (pa_cons (pe_ix (show IxR _ (rIxL K) from ix_list) (pv 5) pe_int (fun _ _ => rfl)) (pa_cons (pe_ix (show IxR _ (rIxL K) from ix_list) (pv 5) pe_int (fun _ _ => rfl)) (pa_cons (pe_ix (show IxR _ (rIxL K) from ix_list) (pv 5) pe_int (fun _ _ => rfl)) (pa_cons (pe_ix (show IxR _ (rIxL K) from ix_list) (pv 5) pe_int (fun _ _ => rfl)) pa_nil))))))) (pe_ix ix_tup (pe_ix ix_list (pv 3) pe_int (fun _ _ => rfl)) (pv 4) (fun _ _ => rfl)) (nomark _)) (pss_one (ps_ret pe_bl)) pss_nil)
        (pss_cons (ps_set (i := 6) sc__law_bad_right.nd rfl (Or.inl rfl) (pe_ix ix_tup (pe_tup (pa_cons pe_str (pa_cons pe_str (pa_cons pe_str (pa_cons pe_str pa_nil))))) (pv 4) (fun _ _ => rfl)))
        (pss_one (ps_if (pt_cmpR op_ne (LamX.pe_lamcall (T := TLs K) (k := 4) (c := cLm K) (P := pLm K) rfl T.g__law_refused k__law_refused lk__law_refused hcg__law_refused b__law_refused sc__law_refused rfl vis__law_refused (refused_gives T) TB rfl (List.mem_singleton.mpr rfl) (fun p hp _ => by rw [List.mem_singleton.mp hp]; rfl) (hr.mono (by first | decide | omega)) (LamX.lamS_by (by show LamX.lamSB (defScope s__law_bad_right) _ = true; decide +kernel)) rfl (fun _ _ _ _ _ => rfl) (fun _ _ _ _ _ _ _ hr2 => (pe_call G_spare (hr2.mono (by decide)) rfl T.g_spare k_spare b_spare .nil (passes_call (takes_of rfl rfl rfl rfl) (fun _ _ _ _ h => h)) (pa_cons (pe_ix (show IxR _ (rIxL K) from ix_list) (pv 5) pe_int (fun _ _ => rfl)) (pa_cons (pe_ix (show IxR _ (rIxL K) from ix_list) (pv 5) pe_int (fun _ _ => rfl)) (pa_cons (pe_ix (show IxR _ (rIxL K) from ix_list) (pv 5) pe_int (fun _ _ => rfl)) pa_nil)))))) (pv 6) (nomark _)) (pss_one (ps_ret pe_bl)) pss_nil)))))))
    (pss_cons (ps_if (pt_cmpR op_ne (LamX.pe_lamcall (T := TLs K) (k := 4) (c := cLm K) (P := pLm K) rfl T.g__law_refused k__law_refused lk__law_refused hcg__law_refused b__law_refused sc__law_refused rfl vis__law_refused (refused_gives T) TB rfl (List.mem_singleton.mpr rfl) (fun p hp _ => by rw [List.mem_singleton.mp hp]; rfl) (hr.mono (by first | decide | omega)) (LamX.lamS_by (by show LamX.lamSB (defScope s__law_bad_right) _ = true; decide +kernel)) rfl (fun _ _ _ _ _ => rfl) (fun _ _ _ _ _ _ _ hr2 => (pe_call G_wanted (hr2.mono (by decide)) rfl T.g_wanted k_wanted b_wanted .nil (passes_call (takes_of rfl rfl rfl rfl) (fun _ _ _ _ h => h)) (pa_cons pe_int (pa_cons pe_int (pa_cons pe_int (pa_cons pe_int pa_nil))))))) pe_str (nomark _)) (pss_one (ps_ret pe_bl)) pss_nil)
    (pss_cons (ps_if (pt_cmpR op_ne (LamX.pe_lamcall (T := TLs K) (k := 4) (c := cLm K) (P := pLm K) rfl T.g__law_refused k__law_refused lk__law_refused hcg__law_refused b__law_refused sc__law_refused rfl vis__law_refused (refused_gives T) TB rfl (List.mem_singleton.mpr rfl) (fun p hp _ => by rw [List.mem_singleton.mp hp]; rfl) (hr.mono (by first | decide | omega)) (LamX.lamS_by (by show LamX.lamSB (defScope s__law_bad_right) _ = true; decide +kernel)) rfl (fun _ _ _ _ _ => rfl) (fun _ _ _ _ _ _ _ hr2 => (pe_call G_wanted (hr2.mono (by decide)) rfl T.g_wanted k_wanted b_wanted .nil (passes_call (takes_of rfl rfl rfl rfl) (fun _ _ _ _ h => h)) (pa_cons pe_int (pa_cons pe_int (pa_cons pe_int (pa_cons pe_int pa_nil))))))) pe_str (nomark _)) (pss_one (ps_ret pe_bl)) pss_nil)
    (pss_one (ps_ret (pe_and (pe_cmpR op_eq (LamX.pe_lamcall (T := TLs K) (k := 4) (c := cLm K) (P := pLm K) rfl T.g__law_refused k__law_refused lk__law_refused hcg__law_refused b__law_refused sc__law_refused rfl vis__law_refused (refused_gives T) TB rfl (List.mem_singleton.mpr rfl) (fun p hp _ => by rw [List.mem_singleton.mp hp]; rfl) (hr.mono (by first | decide | omega)) (LamX.lamS_by (by show LamX.lamSB (defScope s__law_bad_right) _ = true; decide +kernel)) rfl (fun _ _ _ _ _ => rfl) (fun _ _ _ _ _ _ _ hr2 => (pe_call G_planned_for (hr2.mono (by decide)) rfl T.g_planned_for k_planned_for b_planned_for .nil (passes_call (takes_of rfl rfl rfl rfl) (fun _ _ _ _ h => h)) (pa_cons pe_int (pa_cons pe_int (pa_cons pe_int (pa_cons pe_int pa_nil))))))) pe_str (nomark _)) (pe_one (pe_cmpR op_eq (pe_call G_planned_for (hr.mono (by first | decide | omega)) rfl T.g_planned_for k_planned_for b_planned_for .nil passL (pa_cons pe_int (pa_cons pe_int (pa_cons pe_int (pa_cons pe_int pa_nil))))) pe_int (nomark _)))))))))))), ?_⟩
  refine ⟨4, rfl, by decide, by decide, fun D hD => ?_⟩
  have nD : D ≠ a := well_ne3 hw hD
  refine lc_range (lo := 0) (n := 4) (fun i H' => Keep a H H' ∧ ∃ (n' : Nat) (acc : List V), WellAt H' a n' ∧ n' ≤ n + i ∧ H' D = some (.lst acc) ∧ acc.length = i ∧ ∀ y ∈ acc, BadV H' y ∧ y ≠ .ref D)
    ⟨Keep.new hD, n, [], well_new hw hD, by omega, upd_same, rfl, fun r hr => by cases hr⟩ ?_ ?_
  · rintro i H2 hi ⟨K2, n2, acc, w2, hn2, gD, la, ha⟩
    refine ⟨rfl, yes_ ?_⟩
    refine iteT ?_
    refine ⟨_, rfl, 1, rfl, smallN (by show 0 ≤ 1000; decide), fun p1 q1 p2 q2 => ⟨smallN (by show 1 ≤ 1000; decide), fun p3 q3 => ⟨smallN (by show 8 ≤ 1000; decide), fun p4 q4 => ?_⟩⟩⟩
    have S1 := Same.new (u := .lst []) q1
    have S2 := Same.new (u := .dK []) q2
    have S3 := Same.new (u := .tup [.int 1]) q3
    have S4 := Same.new (u := .lst [.non, .int (-1), .bl true, .str "1", .ref p1, .ref p2, .ref p3, .bl false]) q4
    have g1 := S4 _ _ (S3 _ _ (S2 _ _ (upd_same (H := H2) (a := p1) (o := .lst []))))
    have g2 := S4 _ _ (S3 _ _ (upd_same (a := p2) (o := .dK [])))
    have g3 := S4 _ _ (upd_same (a := p3) (o := .tup [.int 1]))
    have d1 : p1 ≠ D := (ne_of_none gD q1).symm
    have d2 : p2 ≠ D := (ne_of_none (S1 _ _ gD) q2).symm
    have d3 : p3 ≠ D := (ne_of_none (S2 _ _ (S1 _ _ gD)) q3).symm
    have S := Same.trans' (Same.trans' (Same.trans' S1 S2) S3) S4
    have w3 := well_same w2 S
    have n4 : p4 ≠ a := by
      have w := well_same w2 (Same.trans' (Same.trans' S1 S2) S3)
      exact well_ne3 w q4
    refine ⟨a, p4, n2, _, rfl, w3, by omega, upd_same, n4, (by show 0 < 8; decide), (by show 8 ≤ 1000; decide), fun y u n3 hy hn3 hu3 => ?_⟩
    have hyB : BadV (upd (upd (upd (upd H2 p1 (.lst [])) p2 (.dK [])) p3 (.tup [.int 1])) p4 (.lst [.non, .int (-1), .bl true, .str "1", .ref p1, .ref p2, .ref p3, .bl false])) y ∧ y ≠ .ref D := by
      simp only [List.mem_cons, List.not_mem_nil, or_false] at hy
      rcases hy with rfl | rfl | rfl | rfl | rfl | rfl | rfl | rfl
      · exact ⟨⟨rfl, .inl trivial⟩, fun z => by cases z⟩
      · exact ⟨⟨rfl, .inl trivial⟩, fun z => by cases z⟩
      · exact ⟨⟨rfl, .inl trivial⟩, fun z => by cases z⟩
      · exact ⟨⟨rfl, .inl trivial⟩, fun z => by cases z⟩
      · exact ⟨⟨rfl, .inr ⟨p1, rfl, .inl g1⟩⟩, fun z => d1 (V.ref.inj z)⟩
      · exact ⟨⟨rfl, .inr ⟨p2, rfl, .inr (.inr g2)⟩⟩, fun z => d2 (V.ref.inj z)⟩
      · exact ⟨⟨rfl, .inr ⟨p3, rfl, .inr (.inl g3)⟩⟩, fun z => d3 (V.ref.inj z)⟩
      · exact ⟨⟨rfl, .inl trivial⟩, fun z => by cases z⟩
    generalize upd (upd (upd (upd H2 p1 (.lst [])) p2 (.dK [])) p3 (.tup [.int 1])) p4 (.lst [.non, .int (-1), .bl true, .str "1", .ref p1, .ref p2, .ref p3, .bl false]) = H3 at *
    have kA : KeepN a H3 (upd H3 a u) := KeepN.of Keep.at_
    have gD4 : upd H3 a u D = some (.lst acc) := by rw [upd_ne nD]; exact S _ _ gD
    refine ⟨acc, gD4, small1000 (by omega), fun b o hb hbo => ?_, n3, acc ++ [y], ?_, by omega, upd_same, by rw [List.length_append, la]; rfl, fun z hz => ?_⟩
    · rw [upd_ne (ne_of_none hbo hD), upd_ne hb]; exact S _ _ (K2 _ _ hb hbo)
    · exact ⟨u, by rw [upd_ne nD.symm, upd_same], hu3⟩
    · rcases List.mem_append.mp hz with hz | hz
      · obtain ⟨h1, h2⟩ := ha z hz
        exact ⟨((h1.keep w2 (KeepN.of (Keep.of S))).keep w3 kA).upd h2, h2⟩
      · rw [List.mem_singleton.mp hz]
        exact ⟨(hyB.1.keep w3 kA).upd hyB.2, hyB.2⟩
  · rintro H1 ⟨K1, n1, odd, w1, hn1, gD, lo, hodd⟩
    refine ⟨smallN (by show 4 ≤ 1000; decide), fun pg qg => ⟨smallN (by show 4 ≤ 1000; decide), fun t1 u1 => ⟨smallN (by show 4 ≤ 1000; decide), fun t2 u2 => ⟨smallN (by show 2 ≤ 1000; decide), fun pw uw => ?_⟩⟩⟩⟩
    have Sg := Same.new (u := .lst good4) qg
    have St := Same.new (u := .tup [.str "load", .str "aim", .str "low", .str "high"]) u1
    have Su := Same.new (u := .tup [.str "replicas", .str "surge", .str "planned", .str "have"]) u2
    have Sw := Same.new (u := .lst [.ref t1, .ref t2]) uw
    have S5 := Same.trans' (Same.trans' (Same.trans' Sg St) Su) Sw
    have gg := Sw _ _ (Su _ _ (St _ _ (upd_same (H := H1) (a := pg) (o := .lst good4))))
    have g1 := Sw _ _ (Su _ _ (upd_same (a := t1) (o := .tup [.str "load", .str "aim", .str "low", .str "high"])))
    have g2 := Sw _ _ (upd_same (a := t2) (o := .tup [.str "replicas", .str "surge", .str "planned", .str "have"]))
    have gw : (upd (upd (upd (upd H1 pg (.lst good4)) t1 (.tup [.str "load", .str "aim", .str "low", .str "high"])) t2 (.tup [.str "replicas", .str "surge", .str "planned", .str "have"])) pw (.lst [.ref t1, .ref t2])) pw = some (.lst [.ref t1, .ref t2]) := upd_same
    have gO := S5 _ _ gD
    have ngA : pg ≠ a := well_ne3 w1 qg
    have nwA : pw ≠ a := well_ne3 (well_same w1 (Same.trans' (Same.trans' Sg St) Su)) uw
    have w5 := well_same w1 S5
    have T5 : LamX.Tabs (TLs K) (upd (upd (upd (upd H1 pg (.lst good4)) t1 (.tup [.str "load", .str "aim", .str "low", .str "high"])) t2 (.tup [.str "replicas", .str "surge", .str "planned", .str "have"])) pw (.lst [.ref t1, .ref t2])) := tabs_keep hw (K1.trans (Keep.of S5)) hT
    have K5 : Keep a H (upd (upd (upd (upd H1 pg (.lst good4)) t1 (.tup [.str "load", .str "aim", .str "low", .str "high"])) t2 (.tup [.str "replicas", .str "surge", .str "planned", .str "have"])) pw (.lst [.ref t1, .ref t2])) := K1.trans (Keep.of S5)
    have bad5 : ∀ y ∈ odd, BadV (upd (upd (upd (upd H1 pg (.lst good4)) t1 (.tup [.str "load", .str "aim", .str "low", .str "high"])) t2 (.tup [.str "replicas", .str "surge", .str "planned", .str "have"])) pw (.lst [.ref t1, .ref t2])) y := fun y hy => (hodd y hy).1.keep w1 (KeepN.of (Keep.of S5))
    have gb : ∀ y ∈ odd, goodC y = false := fun y hy => (hodd y hy).1.1
    clear Sg St Su Sw S5 K1 hodd hT hw
    generalize (upd (upd (upd (upd H1 pg (.lst good4)) t1 (.tup [.str "load", .str "aim", .str "low", .str "high"])) t2 (.tup [.str "replicas", .str "surge", .str "planned", .str "have"])) pw (.lst [.ref t1, .ref t2])) = H5 at *
    have n1A := well_ne w5 g1 fun _ z => by cases z
    have n2A := well_ne w5 g2 fun _ z => by cases z
    refine ⟨4, rfl, by decide, by decide, for_range (lo := 0) (n := 4) (fun i σ H' => ∃ (v4 v5 v6 v7 : Option V) (n' : Nat), σ = [some (.ref a), some (.ref D), some (.ref pg), some (.ref pw), v4, v5, v6, v7] ∧ KeepN a H5 H' ∧ WellAt H' a n' ∧ n' ≤ n + 4 + i ∧ LamX.Tabs (TLs K) H')
      ⟨_, _, _, _, n1, rfl, KeepN.of (Keep.refl a H5), w5, by omega, T5⟩ ?_ ?_⟩
    · rintro i σ H6 hi ⟨v4, v5, v6, v7, n6, rfl, k6, w6, m6, T6⟩
      have gg6 := k6 _ _ ngA (fun _ z => by cases z) gg
      have gO6 := k6 _ _ nD (fun _ z => by cases z) gO
      have gw6 := k6 _ _ nwA (fun _ z => by cases z) gw
      have g16 := k6 _ _ n1A (fun _ z => by cases z) g1
      have g26 := k6 _ _ n2A (fun _ z => by cases z) g2
      have bad6 : ∀ y ∈ odd, BadV H6 y := fun y hy => (bad5 y hy).keep w5 k6
      rw [Int.zero_add]
      refine ⟨_, rfl, _, rfl, _, rfl, pg, _, rfl, SqL.of gg6, fun p1 q1 => ?_⟩
      have Sa := Same.new (u := .lst (cutV good4 none (some (i : Int)))) q1
      have ga : upd H6 p1 (.lst (cutV good4 none (some (i : Int)))) p1 = _ := upd_same
      generalize upd H6 p1 (.lst (cutV good4 none (some (i : Int)))) = Ha at Sa ga ⊢
      refine ⟨_, rfl, _, rfl, _, rfl, _, rfl, _, _, rfl, rfl, _, rfl, D, _, rfl, SqL.of (Sa _ _ gO6), fun p2 q2 => ?_⟩
      have Sb := Same.new (u := .lst (cutV odd (some (i : Int)) (some ((i : Int) + 1)))) q2
      have gb2 : upd Ha p2 (.lst (cutV odd (some (i : Int)) (some ((i : Int) + 1)))) p2 = _ := upd_same
      generalize upd Ha p2 (.lst (cutV odd (some (i : Int)) (some ((i : Int) + 1)))) = Hb at Sb gb2 ⊢
      have la := cutV_length good4 none (some (i : Int))
      have lb := cutV_length odd (some (i : Int)) (some ((i : Int) + 1))
      have lg : good4.length = 4 := rfl
      refine ⟨p1, p2, _, _, rfl, rfl, Sb _ _ ga, gb2, smallN (by omega), fun p3 q3 => ?_⟩
      have Sc := Same.new (u := .lst (cutV good4 none (some (i : Int)) ++ cutV odd (some (i : Int)) (some ((i : Int) + 1)))) q3
      have gc : upd Hb p3 (.lst (cutV good4 none (some (i : Int)) ++ cutV odd (some (i : Int)) (some ((i : Int) + 1)))) p3 = _ := upd_same
      generalize upd Hb p3 (.lst (cutV good4 none (some (i : Int)) ++ cutV odd (some (i : Int)) (some ((i : Int) + 1)))) = Hc at Sc gc ⊢
      have S3 := Same.trans' (Same.trans' Sa Sb) Sc
      have wc := well_same w6 S3
      refine ⟨_, rfl, _, rfl, _, rfl, smallN (by show 2 ≤ 1000; decide), fun p4 q4 => ?_⟩
      have Sd := Same.new (u := .lst [.ref pg, .ref D]) q4
      have nc : p3 ≠ a := well_ne3 (well_same w6 (Same.trans' Sa Sb)) q3
      have n4 : p4 ≠ a := well_ne3 wc q4
      have gd : upd Hc p4 (.lst [.ref pg, .ref D]) p4 = _ := upd_same
      generalize upd Hc p4 (.lst [.ref pg, .ref D]) = Hd at Sd gd ⊢
      have wd := well_same wc Sd
      refine ⟨a, p4, n6, _, rfl, wd, by omega, gd, n4, (by show 0 < 2; decide), (by show 2 ≤ 1000; decide), fun y u n7 hy m7 hu7 => ?_⟩
      have w7 := well_upd (H := Hd) (a := a) hu7
      have K7 : Keep a H6 (upd Hd a u) := (Keep.of (Same.trans' S3 Sd)).trans Keep.at_
      have gc7 : upd Hd a u p3 = _ := Keep.at_ _ _ nc (Sd _ _ gc)
      generalize upd Hd a u = H7 at w7 K7 gc7 ⊢
      obtain ⟨b, ys, rfl, hb, hys⟩ : ∃ b ys, y = .ref b ∧ H7 b = some (.lst ys) ∧ (ys = good4 ∨ ys = odd) := by
        simp only [List.mem_cons, List.not_mem_nil, or_false] at hy
        rcases hy with rfl | rfl
        · exact ⟨pg, _, rfl, K7 _ _ ngA gg6, .inl rfl⟩
        · exact ⟨D, _, rfl, K7 _ _ nD gO6, .inr rfl⟩
      refine ⟨_, rfl, _, _, rfl, rfl, _, rfl, b, _, rfl, SqL.of hb, fun p5 q5 => ?_⟩
      have Se := Same.new (u := .lst (cutV ys (some ((i : Int) + 1)) none)) q5
      have ge : upd H7 p5 (.lst (cutV ys (some ((i : Int) + 1)) none)) p5 = _ := upd_same
      generalize upd H7 p5 (.lst (cutV ys (some ((i : Int) + 1)) none)) = Hee at Se ge ⊢
      have lc := cutV_length ys (some ((i : Int) + 1)) none
      have ly : ys.length = 4 := by
        rcases hys with h | h
        · rw [h]; rfl
        · rw [h]; exact lo
      refine ⟨p3, p5, _, _, rfl, rfl, Se _ _ gc7, ge, smallN (by rw [List.length_append]; omega), fun p6 q6 => ?_⟩
      obtain ⟨s0, s1, s2, s3, e4, R4⟩ := some4 lo gb hys i hi
      rw [e4]
      have Sf := Same.new (u := .lst [s0, s1, s2, s3]) q6
      have gf : upd Hee p6 (.lst [s0, s1, s2, s3]) p6 = _ := upd_same
      have nf : p6 ≠ a := well_ne3 (well_same w7 Se) q6
      generalize upd Hee p6 (.lst [s0, s1, s2, s3]) = H8 at Sf gf ⊢
      have K8 : Keep a H6 H8 := K7.trans (Keep.of (Same.trans' Se Sf))
      have w8 := well_same w7 (Same.trans' Se Sf)
      have T8 := tabs_keep w6 K8 T6
      have k8 : KeepN a H6 H8 := KeepN.of K8
      clear K8 Se Sf ge q5 q6 q1 q2 q3 q4 Sa Sb Sc Sd S3 wc wd ga gb2 gc gc7 la lb lc e4
      show tSeq _ _ _ _ _
      refine at_st (σ' := [some (.ref a), some (.ref D), some (.ref pg), some (.ref pw), some (.int (i : Int)), some (.ref p6), v6, v7]) rfl ?_
      have i4 : ∀ n0 n1 n2 n3 : Str, [n0, n1, n2, n3][i]? ≠ none := fun n0 n1 n2 n3 h => by
        have h := List.getElem?_eq_none_iff.mp h
        have h : 4 ≤ i := h
        omega
      refine ⟨T8, fun H9 x9 T9 => ?_⟩
      have w9 := well_extN w8 x9
      have k9 : KeepN a H6 H9 := k8.trans (KeepN.ext x9)
      have gf9 := x9 _ _ gf (fun _ z => by cases z)
      have bad9 : ∀ y ∈ odd, BadV H9 y := fun y hy => (bad6 y hy).keep w6 k9
      have vl := R4.vl bad9
      refine ⟨_, rfl, p6, _, 0, _, rfl, rfl, SqL.of gf9, rfl, _, rfl, p6, _, 1, _, rfl, rfl, SqL.of gf9, rfl, _, rfl, p6, _, 2, _, rfl, rfl, SqL.of gf9, rfl, _, rfl, p6, _, 3, _, rfl, rfl, SqL.of gf9, rfl, ?_⟩
      refine ⟨s0, s1, s2, s3, rfl, vl _ (by simp), vl _ (by simp), vl _ (by simp), vl _ (by simp), R4.low gb, ?_, fun q e d Hy Sy hd => ⟨rfl, d, q, rfl, hd, fun Hx Sx => ?_⟩⟩
      · rintro z0 z1 z2 z3 Hx rfl rfl rfl rfl h0 h1 h2 h3 Sx
        exfalso
        have e := R4.b4 "" "" "" ""
        rw [good_none (by simp [good_i, h0, h1, h2, h3])] at e
        exact i4 _ _ _ _ e.symm
      rw [R4.b4] at e
      replace Sx := Same.trans' Sy Sx
      have wx := well_same w9 Sx
      have kx : KeepN a H6 Hx := k9.trans (KeepN.of (Keep.of Sx))
      have Tx := T9.ext Sx
      refine ⟨_, rfl, pw, _, 0, _, rfl, rfl, SqL.of (kx _ _ nwA (fun _ z => by cases z) gw6), rfl, _, rfl, t1, _, i, _, rfl, rfl, SqT.of (kx _ _ n1A (fun _ z => by cases z) g16), at4 e, ?_⟩
      refine ⟨rfl, _, rfl, ?_⟩
      rw [decide_eq_true (rfl : V.str q = _)]
      refine iteF ?_
      have gfx := Sx _ _ gf9
      clear vl bad9 gf9 T9 k9 w9 x9 Sx Sy hd e gf
      show tSeq _ _ _ _ _
      refine at_st (σ' := [some (.ref a), some (.ref D), some (.ref pg), some (.ref pw), some (.int (i : Int)), some (.ref p6), v6, v7]) rfl ?_
      refine ⟨Tx, fun H9 x9 T9 => ?_⟩
      have w9 := well_extN wx x9
      have k9 : KeepN a H6 H9 := kx.trans (KeepN.ext x9)
      have gf9 := x9 _ _ gfx (fun _ z => by cases z)
      have bad9 : ∀ y ∈ odd, BadV H9 y := fun y hy => (bad6 y hy).keep w6 k9
      have vl := R4.vl bad9
      refine ⟨_, rfl, p6, _, 0, _, rfl, rfl, SqL.of gf9, rfl, _, rfl, p6, _, 1, _, rfl, rfl, SqL.of gf9, rfl, _, rfl, p6, _, 2, _, rfl, rfl, SqL.of gf9, rfl, _, rfl, p6, _, 3, _, rfl, rfl, SqL.of gf9, rfl, ?_⟩
      refine ⟨s0, s1, s2, s3, rfl, vl _ (by simp), vl _ (by simp), vl _ (by simp), vl _ (by simp), ?_, fun q e d Hy Sy hd => ⟨rfl, d, q, rfl, hd, fun Hx Sx => ?_⟩⟩
      · rintro z0 z1 z2 z3 Hx rfl rfl rfl rfl h0 h1 h2 h3 Sx
        exfalso
        have e := R4.b4 "" "" "" ""
        rw [good_none (by simp [good_i, h0, h1, h2, h3])] at e
        exact i4 _ _ _ _ e.symm
      rw [R4.b4] at e
      replace Sx := Same.trans' Sy Sx
      have wx := well_same w9 Sx
      have kx : KeepN a H6 Hx := k9.trans (KeepN.of (Keep.of Sx))
      have Tx := T9.ext Sx
      refine ⟨_, rfl, pw, _, 1, _, rfl, rfl, SqL.of (kx _ _ nwA (fun _ z => by cases z) gw6), rfl, _, rfl, t2, _, i, _, rfl, rfl, SqT.of (kx _ _ n2A (fun _ z => by cases z) g26), at4 e, ?_⟩
      refine ⟨rfl, _, rfl, ?_⟩
      rw [decide_eq_true (rfl : V.str q = _)]
      refine iteF ?_
      have gfx := Sx _ _ gf9
      clear vl bad9 gf9 T9 k9 w9 x9 Sx Sy hd e
      show tSeq _ _ _ _ _
      refine at_st (σ' := [some (.ref a), some (.ref D), some (.ref pg), some (.ref pw), some (.int (i : Int)), some (.ref p6), v6, v7]) rfl ?_
      refine ⟨smallN (by show 4 ≤ 1000; decide), fun p7 q7 => ?_⟩
      have Sg := Same.new (u := .tup [.str "replicas", .str "down", .str "ready", .str "ok"]) q7
      have g7 : upd Hx p7 (.tup [.str "replicas", .str "down", .str "ready", .str "ok"]) p7 = _ := upd_same
      generalize upd Hx p7 (.tup [.str "replicas", .str "down", .str "ready", .str "ok"]) = Hz at Sg g7 ⊢
      obtain ⟨q0, e0⟩ : ∃ q0, (["replicas", "down", "ready", "ok"] : List Str)[i]? = some q0 := by
        cases h : (["replicas", "down", "ready", "ok"] : List Str)[i]? with
        | none => exact absurd h (i4 _ _ _ _)
        | some q0 => exact ⟨q0, rfl⟩
      refine ⟨_, rfl, p7, _, i, _, rfl, rfl, SqT.of g7, at4 e0, ?_⟩
      refine ⟨Tx.ext Sg, fun H9 x9 T9 => ?_⟩
      have w9 := well_extN (well_same wx Sg) x9
      have k9 : KeepN a H6 H9 := (kx.trans (KeepN.of (Keep.of Sg))).trans (KeepN.ext x9)
      have gf9 := x9 _ _ (Sg _ _ gfx) (fun _ z => by cases z)
      have bad9 : ∀ y ∈ odd, BadV H9 y := fun y hy => (bad6 y hy).keep w6 k9
      have vl := R4.vl bad9
      have fin : ∀ Hx, Same H9 Hx → ∃ (w4 w5 w6 w7 : Option V) (n' : Nat), [some (V.ref a), some (.ref D), some (.ref pg), some (.ref pw), some (.int (i : Int)), some (.ref p6), some (.str q0), v7] = [some (.ref a), some (.ref D), some (.ref pg), some (.ref pw), w4, w5, w6, w7] ∧ KeepN a H5 Hx ∧ WellAt Hx a n' ∧ n' ≤ n + 4 + (i + 1) ∧ LamX.Tabs (TLs K) Hx :=
        fun Hx Sx => ⟨_, _, _, _, n7, rfl, k6.trans (k9.trans (KeepN.of (Keep.of Sx))), well_same w9 Sx, by omega, T9.ext Sx⟩
      refine ⟨_, rfl, p6, _, 0, _, rfl, rfl, SqL.of gf9, rfl, _, rfl, p6, _, 1, _, rfl, rfl, SqL.of gf9, rfl, _, rfl, p6, _, 2, _, rfl, rfl, SqL.of gf9, rfl, ?_⟩
      refine ⟨s0, s1, s2, rfl, vl _ (by simp), vl _ (by simp), vl _ (by simp), ?_, fun q e d Hy Sy hd => ⟨rfl, d, q, rfl, hd, fun Hx Sx => ?_⟩⟩
      · rintro z0 z1 z2 Hx rfl rfl rfl h0 h1 h2 Sx
        have e := R4.b3 "replicas" "down" "ready"
        rw [good_none (by simp [good_i, h0, h1, h2])] at e
        have eq := due0 e.symm e0
        subst eq
        refine ⟨_, rfl, rfl, _, rfl, ?_⟩
        rw [decide_eq_true (rfl : V.str "ok" = _)]
        exact iteF (fin Hx Sx)
      · rw [R4.b3] at e
        have eq := due3 e e0
        subst eq
        refine ⟨_, rfl, rfl, _, rfl, ?_⟩
        rw [decide_eq_true (rfl : V.str q = _)]
        exact iteF (fin Hx (Same.trans' Sy Sx))
    · rintro σ H6 ⟨v4, v5, v6, v7, n6, rfl, k6, w6, m6, T6⟩
      refine ⟨T6, fun H9 x9 T9 => ?_⟩
      have w9 := well_extN w6 x9
      have k9 : KeepN a H5 H9 := k6.trans (KeepN.ext x9)
      refine ⟨_, _, _, _, rfl, .inl trivial, .inl trivial, .inl trivial, .inl trivial, (by rintro i ⟨⟩; omega), ?_, fun q e => (by cases e)⟩
      rintro z0 z1 z2 z3 H' ⟨⟩ ⟨⟩ ⟨⟩ ⟨⟩ h0 h1 h2 h3 S'
      refine ⟨fun h => by omega, fun _ d Hy Sy hd => ⟨rfl, d, _, rfl, hd, fun Hx Sx => ?_⟩, fun h => by omega⟩
      have wx := well_same w9 (Same.trans' Sy Sx)
      have kx := k9.trans (KeepN.of (Keep.of (Same.trans' Sy Sx)))
      have Tx := T9.ext (Same.trans' Sy Sx)
      refine ⟨rfl, _, rfl, ?_⟩
      rw [decide_eq_true (rfl : V.str "aim" = _)]
      refine iteF ?_
      clear S' Sy Sx hd T9 x9 k9 w9 T6 k6 w6
      refine ⟨Tx, fun H9 x9 T9 => ?_⟩
      have w9 := well_extN wx x9
      have k9 : KeepN a H5 H9 := kx.trans (KeepN.ext x9)
      refine ⟨_, _, _, _, rfl, .inl trivial, .inl trivial, .inl trivial, .inl trivial, (by rintro i ⟨⟩; omega), ?_, fun q e => (by cases e)⟩
      rintro z0 z1 z2 z3 H' ⟨⟩ ⟨⟩ ⟨⟩ ⟨⟩ h0 h1 h2 h3 S'
      refine ⟨fun _ h => by omega, fun h => by omega, fun _ _ d Hy Sy hd => ⟨rfl, d, _, rfl, hd, fun Hx Sx => ?_⟩⟩
      have wx := well_same w9 (Same.trans' Sy Sx)
      have kx := k9.trans (KeepN.of (Keep.of (Same.trans' Sy Sx)))
      have Tx := T9.ext (Same.trans' Sy Sx)
      refine ⟨rfl, _, rfl, ?_⟩
      rw [decide_eq_true (rfl : V.str "high" = _)]
      refine iteF ?_
      clear S' Sy Sx hd T9 x9 k9 w9
      refine ⟨Tx, fun H9 x9 T9 => ?_⟩
      have w9 := well_extN wx x9
      have k9 : KeepN a H5 H9 := kx.trans (KeepN.ext x9)
      refine ⟨_, _, _, _, rfl, .inl trivial, .inl trivial, .inl trivial, .inl trivial, ?_, fun q e => (by cases e)⟩
      rintro z0 z1 z2 z3 H' ⟨⟩ ⟨⟩ ⟨⟩ ⟨⟩ h0 h1 h2 h3 S'
      refine ⟨fun h => by omega, fun _ d Hy Sy hd => ⟨rfl, d, _, rfl, hd, fun Hx Sx => ?_⟩⟩
      have wx := well_same w9 (Same.trans' Sy Sx)
      have kx := k9.trans (KeepN.of (Keep.of (Same.trans' Sy Sx)))
      have Tx := T9.ext (Same.trans' Sy Sx)
      refine ⟨rfl, _, rfl, ?_⟩
      rw [decide_eq_true (rfl : V.str "have" = _)]
      refine iteT ?_
      clear S' Sy Sx hd T9 x9 k9 w9
      refine ⟨_, _, _, _, rfl, .inl trivial, .inl trivial, .inl trivial, .inl trivial, ?_, fun q e => (by cases e)⟩
      rintro z0 z1 z2 z3 H' ⟨⟩ ⟨⟩ ⟨⟩ ⟨⟩ h0 h1 h2 h3 S'
      refine ⟨fun _ => ?_, fun h => by omega⟩
      refine ⟨rfl, ?_⟩
      exact k H' n6 ((KeepN.of K5).trans (kx.trans (KeepN.of (Keep.of S')))) (well_same wx S') (by omega) (Tx.ext S')

/-! ### the law -/
def sp_law (K : PySem.W.Frag) : Sp := fun vs H Q _ => ∃ (a : Addr) (ns : List Int), vs = [.ref a] ∧ SqL K H a (ns.map V.int) ∧ ns.length ≤ 63 ∧ LamX.Tabs (TLs K) H ∧ ∀ H', Q (.bl true) H'
theorem cut_mem {xs : List V} {lo hi : Option Int} {y : V} (h : y ∈ cutV xs lo hi) : y ∈ xs := List.mem_of_mem_drop (List.mem_of_mem_take h)
theorem cut_int {ns : List Int} {lo hi : Option Int} {x : V} (h : x ∈ cutV (ns.map V.int) lo hi) : ∃ i, x = .int i := by
  obtain ⟨i, _, rfl⟩ := List.mem_map.mp (cut_mem h)
  exact ⟨i, rfl⟩
theorem ok_law {P : Program} {w : World} {K : PySem.W.Frag} {mg : Str → Option Value} {base : Heap} {fd : FuncData} (T : Txt K mg) (F : FnP K "law" s_law [] fd) (TB : TbB K mg base) : FnOk P w K mg base CX0 8 (He.ga K "law") fd ps_law (sp_law K) := by
  obtain ⟨fd__law_source, F__law_source⟩ := T.d__law_source
  have G__law_source := ok__law_source (P := P) (w := w) (base := base) T F__law_source
  have k__law_source := F__law_source.kp
  have b__law_source := bi__law_source F__law_source
  obtain ⟨fd__law_cell_at, F__law_cell_at⟩ := T.d__law_cell_at
  have G__law_cell_at := ok__law_cell_at (P := P) (w := w) (base := base) T F__law_cell_at
  have k__law_cell_at := F__law_cell_at.kp
  have b__law_cell_at := bi__law_cell_at F__law_cell_at
  obtain ⟨fd__law_bad_right, F__law_bad_right⟩ := T.d__law_bad_right
  have G__law_bad_right := ok__law_bad_right (P := P) (w := w) (base := base) T F__law_bad_right TB
  have k__law_bad_right := F__law_bad_right.kp
  have b__law_bad_right := bi__law_bad_right F__law_bad_right
  obtain ⟨fd__law_right, F__law_right⟩ := T.d__law_right
  have G__law_right := ok__law_right (P := P) (w := w) (base := base) T F__law_right
  have k__law_right := F__law_right.kp
  have b__law_right := bi__law_right F__law_right
  refine F.ok sc_law (fun vs H Q E h => ?len) (fun cdv A outer s H vs Q E hr h => ?body)
  case len => obtain ⟨a, ns, rfl, hS, hlen, hT, k⟩ := h; rfl
  case body =>
  obtain ⟨a, ns, rfl, hS, hlen, hT, k⟩ := h
  have hu := hu_of hr
  refine ⟨_, PSs.nox (pss_cons (ps_for PassesOwn.never rfl (pi_list (pe_op op_cat (pe_lst (pa_cons (pe_call G__law_cell_at (hr.mono (by first | decide | omega)) rfl T.g__law_cell_at k__law_cell_at b__law_cell_at .nil pass0 (pa_cons (pv 0) (pa_cons pe_int pa_nil))) pa_nil)) (pe_slice sl_list (pv 0) (po_some pe_int) (po_some pe_int)))) (pg_name (i := 1) sc_law.nd rfl (Or.inl rfl))
      (pss_cons (ps_set (i := 2) sc_law.nd rfl (Or.inl rfl) (pe_call G__law_source (hr.mono (by first | decide | omega)) rfl T.g__law_source k__law_source b__law_source .nil pass0 (pa_cons (pv 1) pa_nil)))
        (pss_cons (ps_for PassesOwn.never rfl (pi_range1 rfl T.n_range (pa_cons pe_int pa_nil)) (pg_name (i := 3) sc_law.nd rfl (Or.inl rfl))
          (pss_one (ps_if (pt_not (pt_val (pe_call G__law_right (hr.mono (by first | decide | omega)) rfl T.g__law_right k__law_right b__law_right .nil pass0 (pa_cons (pv 2) pa_nil)))) (pss_one (ps_ret pe_bl)) pss_nil)))
        (pss_one (ps_if (pt_not (pt_val (pe_call G__law_bad_right (hr.mono (by first | decide | omega)) rfl T.g__law_bad_right k__law_bad_right b__law_bad_right .nil pass0 (pa_cons (pv 2) pa_nil)))) (pss_one (ps_ret pe_bl)) pss_nil)))))
    (pss_one (ps_ret pe_bl))), ?_⟩
  refine ⟨_, rfl, a, ns, rfl, hS, fun i0 => ⟨smallN (by show 1 ≤ 1000; decide), fun p1 q1 => ?_⟩⟩
  have S1 := Same.new (u := .lst [.int i0]) q1
  have g1 : (upd H p1 (.lst [.int i0])) p1 = _ := upd_same
  generalize upd H p1 (.lst [.int i0]) = H1 at S1 g1 ⊢
  refine ⟨_, rfl, _, rfl, _, rfl, a, _, rfl, S1.seq hS, fun p2 q2 => ?_⟩
  have S2 := Same.new (u := .lst (cutV (ns.map V.int) (some 1) (some 6))) q2
  have g2 : (upd H1 p2 (.lst (cutV (ns.map V.int) (some 1) (some 6)))) p2 = _ := upd_same
  generalize upd H1 p2 (.lst (cutV (ns.map V.int) (some 1) (some 6))) = H2 at S2 g2 ⊢
  have hc : (cutV (ns.map V.int) (some 1) (some 6)).length ≤ 63 := Nat.le_trans (cutV_length _ _ _) (by rw [List.length_map]; exact hlen)
  refine ⟨p1, p2, _, _, rfl, rfl, S2 _ _ g1, g2, smallN (by show 1 + _ ≤ 1000; omega), fun p3 q3 => ?_⟩
  have S3 := Same.new (u := .lst ([.int i0] ++ cutV (ns.map V.int) (some 1) (some 6))) q3
  have g3 : (upd H2 p3 (.lst ([.int i0] ++ cutV (ns.map V.int) (some 1) (some 6)))) p3 = _ := upd_same
  generalize upd H2 p3 (.lst ([.int i0] ++ cutV (ns.map V.int) (some 1) (some 6))) = H3 at S3 g3 ⊢
  have T3 := hT.ext (Same.trans' (Same.trans' S1 S2) S3)
  refine ⟨p3, rfl, ⟨_, SqL.of g3⟩, for_list (K := K) (a := p3) (xs := [.int i0] ++ cutV (ns.map V.int) (some 1) (some 6)) (fun _ σ H' => ∃ v1 v2 v3 : Option V, σ = [some (.ref a), v1, v2, v3] ∧ H' p3 = some (.lst ([.int i0] ++ cutV (ns.map V.int) (some 1) (some 6))) ∧ LamX.Tabs (TLs K) H')
    ⟨_, _, _, rfl, g3, T3⟩ (fun _ σ H' _ ⟨_, _, _, _, g, _⟩ => SqL.of g) ?_ ?_⟩
  · rintro j x σ H4 hx ⟨v1, v2, v3, rfl, g4, T4⟩
    obtain ⟨z, rfl⟩ : ∃ z, x = .int z := by
      rcases List.mem_append.mp (mem_at hx) with h | h
      · exact ⟨i0, List.mem_singleton.mp h⟩
      · exact cut_int h
    refine ⟨_, rfl, z, rfl, fun aw u0 hw0 hu0 => ?_⟩
    have S5 := Same.new (u := u0) hw0
    have w5 := well_upd (H := H4) (a := aw) hu0
    have n3 : p3 ≠ aw := ne_of_none g4 hw0
    have g5 := S5 _ _ g4
    have T5 := T4.ext S5
    generalize upd H4 aw u0 = H5 at S5 w5 g5 T5 ⊢
    refine ⟨10, rfl, by decide, by decide, for_range (lo := 0) (n := 10) (fun i σ H' => ∃ (v3 : Option V) (n' : Nat), σ = [some (.ref a), some (.int z), some (.ref aw), v3] ∧ Keep aw H5 H' ∧ WellAt H' aw n' ∧ n' ≤ 40 * i)
      ⟨_, 0, rfl, Keep.refl _ _, w5, by omega⟩ ?_ ?_⟩
    · rintro i σ H6 hi ⟨v3, n6, rfl, K6, w6, m6⟩
      refine ⟨_, rfl, aw, n6, rfl, w6, by omega, fun H7 n7 K7 w7 m7 => ⟨_, rfl, iteF ?_⟩⟩
      exact ⟨_, n7, rfl, K6.trans K7, w7, by omega⟩
    · rintro σ H6 ⟨v3, n6, rfl, K6, w6, m6⟩
      refine ⟨_, rfl, aw, n6, rfl, w6, by omega, tabs_keep w5 K6 T5, fun H7 n7 k7 w7 m7 T7 => ⟨_, rfl, iteF ?_⟩⟩
      exact ⟨_, _, _, rfl, k7 _ _ n3 (fun _ z => by cases z) (K6 _ _ n3 g5), T7⟩
  · rintro σ H4 _
    exact k H4

def dd_is_integer : He.DefD := ⟨("is_integer", none), "is_integer", "is_integer", defArgs s_is_integer, defBody s_is_integer, defScope s_is_integer, [], []⟩
def dd_check_counts : He.DefD := ⟨("check_counts", none), "check_counts", "check_counts", defArgs s_check_counts, defBody s_check_counts, defScope s_check_counts, [], []⟩
def dd_spare : He.DefD := ⟨("spare", none), "spare", "spare", defArgs s_spare, defBody s_spare, defScope s_spare, [], []⟩
def dd_planned_for : He.DefD := ⟨("planned_for", none), "planned_for", "planned_for", defArgs s_planned_for, defBody s_planned_for, defScope s_planned_for, [], []⟩
def dd_wanted : He.DefD := ⟨("wanted", none), "wanted", "wanted", defArgs s_wanted, defBody s_wanted, defScope s_wanted, [], []⟩
def dd__law_cell_at : He.DefD := ⟨("_law_cell_at", none), "_law_cell_at", "_law_cell_at", defArgs s__law_cell_at, defBody s__law_cell_at, defScope s__law_cell_at, [], []⟩
def dd__law_source : He.DefD := ⟨("_law_source", none), "_law_source", "_law_source", defArgs s__law_source, defBody s__law_source, defScope s__law_source, [], []⟩
def dd__law_draw : He.DefD := ⟨("_law_draw", none), "_law_draw", "_law_draw", defArgs s__law_draw, defBody s__law_draw, defScope s__law_draw, [], []⟩
def dd__law_pick : He.DefD := ⟨("_law_pick", none), "_law_pick", "_law_pick", defArgs s__law_pick, defBody s__law_pick, defScope s__law_pick, [], []⟩
def dd__law_refused : He.DefD := ⟨("_law_refused", none), "_law_refused", "_law_refused", defArgs s__law_refused, defBody s__law_refused, defScope s__law_refused, [], []⟩
def dd__law_number : He.DefD := ⟨("_law_number", none), "_law_number", "_law_number", defArgs s__law_number, defBody s__law_number, defScope s__law_number, [], []⟩
def dd__law_right : He.DefD := ⟨("_law_right", none), "_law_right", "_law_right", defArgs s__law_right, defBody s__law_right, defScope s__law_right, [], []⟩
def dd__law_bad_right : He.DefD := ⟨("_law_bad_right", none), "_law_bad_right", "_law_bad_right", defArgs s__law_bad_right, defBody s__law_bad_right, defScope s__law_bad_right, [], []⟩
def dd_law : He.DefD := ⟨("law", none), "law", "law", defArgs s_law, defBody s_law, defScope s_law, [], []⟩
def dd_PlaneError___init__ : He.DefD := ⟨("PlaneError", some "__init__"), "__init__", "PlaneError.__init__", defArgs s_PEinit, defBody s_PEinit, defScope s_PEinit, [.str "invalid"], []⟩
def fn : List He.DefD := [dd_is_integer, dd_check_counts, dd_spare, dd_planned_for, dd_wanted, dd__law_cell_at, dd__law_source, dd__law_draw, dd__law_pick, dd__law_refused, dd__law_number, dd__law_right, dd__law_bad_right, dd_law, dd_PlaneError___init__]
def fa : List He.Fa := [.glo "is_integer", .glo "check_counts", .glo "spare", .glo "planned_for", .glo "wanted", .glo "_law_cell_at", .glo "_law_source", .glo "_law_draw", .glo "_law_pick", .glo "_law_refused", .glo "_law_number", .glo "_law_right", .glo "_law_bad_right", .glo "law", .glo "PlaneError", .glo "BadName", .glo "BadKey", .glo "BadValue", .glo "BadKind", .glo "BadField", .free "len", .free "int", .free "bool", .free "range", .free "isinstance", .free "max", .free "min", .free "ValueError"]
def tf : List He.Defn := [("_law_bad_right", none)]
abbrev R : PySem.W.OpenRow := PySem.W.OpenLaw.row PySem.Challenge.rw_controlplane_k75_numbers_of_rollouts_and
abbrev hk : PySem.W.Hook := He.hookX 6 fa fn [] tf exB
def ob (s : PySem.W.SharedT) : He.AlX := He.obsX 6 fa fn [] tf exB (HandSHeadRun.getT s)
theorem ob_eq (s : PySem.W.SharedT) : ob s = hk.obs s.abs := He.obsX_eq (HandSHeadRun.getT_eq s)
theorem run (w : World) : HandSHeadRun.RunEq R (PySem.W.view R.prog [24]) hk ob 2000 ["__name__", "PlaneError", "BadName", "BadKey", "BadValue", "BadKind", "BadField", "is_integer", "check_counts", "spare", "planned_for", "wanted", "_law_cell_at", "_law_source", "_law_draw", "_law_pick", "_law_refused", "_law_number", "_law_right", "_law_bad_right"] w := by
  intro os
  kernel_rfl
theorem facts {P : Program} {w : World} {K : PySem.W.Frag} {h : Heap} {mg : Str → Option Value} {f : Addr} (X : K.In h) (G : h.Ns mainGlobals mg) (hfa : mg ("law" : Str) = some (.ref f)) (c : He.SaysX fa fn [] tf exB w h K) :
    ∃ fd : FuncData, (∀ (s : Shared) (v : Value), BindsTo s fd ⟨[v], []⟩ [("_law_script", v)]) ∧ ∀ base : Heap, K.In base → base.Ns mainGlobals mg → (∀ p ∈ tf.map (He.cT K), LamX.TabB base mg p.1 p.2) → FnOk P w K mg base CX0 8 f fd ["_law_script"] (sp_law K) := by
  have cd := c.t.d
  have T : Txt K mg := ⟨He.glo_ok X G (cd.fact 0 (f := .glo "is_integer") rfl),
    cd.def_ 0 (d := dd_is_integer) rfl,
    He.glo_ok X G (cd.fact 1 (f := .glo "check_counts") rfl),
    cd.def_ 1 (d := dd_check_counts) rfl,
    He.glo_ok X G (cd.fact 2 (f := .glo "spare") rfl),
    cd.def_ 2 (d := dd_spare) rfl,
    He.glo_ok X G (cd.fact 3 (f := .glo "planned_for") rfl),
    cd.def_ 3 (d := dd_planned_for) rfl,
    He.glo_ok X G (cd.fact 4 (f := .glo "wanted") rfl),
    cd.def_ 4 (d := dd_wanted) rfl,
    He.glo_ok X G (cd.fact 5 (f := .glo "_law_cell_at") rfl),
    cd.def_ 5 (d := dd__law_cell_at) rfl,
    He.glo_ok X G (cd.fact 6 (f := .glo "_law_source") rfl),
    cd.def_ 6 (d := dd__law_source) rfl,
    He.glo_ok X G (cd.fact 7 (f := .glo "_law_draw") rfl),
    cd.def_ 7 (d := dd__law_draw) rfl,
    He.glo_ok X G (cd.fact 8 (f := .glo "_law_pick") rfl),
    cd.def_ 8 (d := dd__law_pick) rfl,
    He.glo_ok X G (cd.fact 9 (f := .glo "_law_refused") rfl),
    cd.def_ 9 (d := dd__law_refused) rfl,
    He.glo_ok X G (cd.fact 10 (f := .glo "_law_number") rfl),
    cd.def_ 10 (d := dd__law_number) rfl,
    He.glo_ok X G (cd.fact 11 (f := .glo "_law_right") rfl),
    cd.def_ 11 (d := dd__law_right) rfl,
    He.glo_ok X G (cd.fact 12 (f := .glo "_law_bad_right") rfl),
    cd.def_ 12 (d := dd__law_bad_right) rfl,
    He.glo_ok X G (cd.fact 13 (f := .glo "law") rfl),
    cd.def_ 13 (d := dd_law) rfl,
    He.glo_ok X G (cd.fact 14 (f := .glo "PlaneError") rfl),
    He.glo_ok X G (cd.fact 15 (f := .glo "BadName") rfl),
    He.glo_ok X G (cd.fact 16 (f := .glo "BadKey") rfl),
    He.glo_ok X G (cd.fact 17 (f := .glo "BadValue") rfl),
    He.glo_ok X G (cd.fact 18 (f := .glo "BadKind") rfl),
    He.glo_ok X G (cd.fact 19 (f := .glo "BadField") rfl),
    He.free_ok X G (cd.fact 20 (f := .free "len") rfl),
    He.free_ok X G (cd.fact 21 (f := .free "int") rfl),
    He.free_ok X G (cd.fact 22 (f := .free "bool") rfl),
    He.free_ok X G (cd.fact 23 (f := .free "range") rfl),
    He.free_ok X G (cd.fact 24 (f := .free "isinstance") rfl),
    He.free_ok X G (cd.fact 25 (f := .free "max") rfl),
    He.free_ok X G (cd.fact 26 (f := .free "min") rfl),
    He.free_ok X G (cd.fact 27 (f := .free "ValueError") rfl),
    cd.def_ 14 (d := dd_PlaneError___init__) rfl,
    c.more⟩
  obtain ⟨fd, F⟩ := T.d_law
  have e := hfa.symm.trans T.g_law
  cases e
  have b := FunD.bindsA (ps := ["_law_script"]) F fun _ _ _ _ _ _ us hl => match us, hl with | [_], _ => rfl
  exact ⟨fd, fun s v => b s [v] rfl, fun base _ _ tb => ok_law T F (tb _ (List.mem_singleton.mpr rfl))⟩
end Lk
open PySem PySem.W PySem.Calls PyProof.Rows
theorem PySem.Challenge.cw_controlplane_k75_numbers_of_rollouts_and_holds : PySem.Challenge.rw_controlplane_k75_numbers_of_rollouts_and.Holds := by
  w_on; o_law
  refine HandSHeadRun.head_any (r := OpenLaw.row PySem.Challenge.rw_controlplane_k75_numbers_of_rollouts_and) (q := view (OpenLaw.row PySem.Challenge.rw_controlplane_k75_numbers_of_rollouts_and).prog [24]) (H := Lk.hk) (ob := Lk.ob) (M := 2000) (loose := ["__name__", "PlaneError", "BadName", "BadKey", "BadValue", "BadKind", "BadField", "is_integer", "check_counts", "spare", "planned_for", "wanted", "_law_cell_at", "_law_source", "_law_draw", "_law_pick", "_law_refused", "_law_number", "_law_right", "_law_bad_right"]) (d := HandSHeadRun.topDef (OpenLaw.row PySem.Challenge.rw_controlplane_k75_numbers_of_rollouts_and).prog 24) (kwd := []) Lk.ob_eq
    (by kernel_rfl) (fun s => by kernel_rfl) Lk.run (by kernel_rfl) (by kernel_rfl) (by kernel_rfl) (by rfl) (by first | assumption | decide +kernel) (by decide +kernel) ⟨rfl, rfl, rfl, rfl, rfl, by decide +kernel⟩ ?hw ?hc
  case hw => w_witness2
  case hc =>
    refine LamX.walk_ofTsE (l := PySem.Challenge.rw_controlplane_k75_numbers_of_rollouts_and) (n := 63) (k := 8) (x := "_law_script") (CX := fun _ => L2.CX0) rfl (by decide) (by kernel_rfl) ⟨rfl, by decide, by decide⟩ ?F (fun _ _ _ _ _ z => z)
    intro w mg fa h Y G hmg0
    obtain ⟨K, KX, c⟩ := Y
    have hmg : mg ("law" : PySem.Str) = some (.ref fa) := by
      have e : (HandSHeadRun.topDef (OpenLaw.row PySem.Challenge.rw_controlplane_k75_numbers_of_rollouts_and).prog 24).name = ("law" : PySem.Str) := by kernel_rfl
      rw [← e]
      exact hmg0
    obtain ⟨fd, hb, hF⟩ := Lk.facts (P := (PySem.Challenge.rw_controlplane_k75_numbers_of_rollouts_and).prog) (w := w) KX G hmg c
    exact ⟨K, KX, fd, Lk.tf.map (He.cT K), Lk.sp_law K, fun p hp => (by obtain ⟨q, hq, rfl⟩ := List.mem_map.mp hp; exact c.empty q hq), fun p hp => (by obtain ⟨q, hq, rfl⟩ := List.mem_map.mp hp; exact c.out q hq), fun p hp => (by obtain ⟨q, hq, rfl⟩ := List.mem_map.mp hp; exact PySem.W.codeHd_of_K KX (c.hd q hq)), hb, fun H a ns hl _ ht hS => ⟨a, ns, rfl, hS, hl, (fun p hp => (by rw [List.mem_singleton.mp hp]; exact LamX.TabS.nil (ht _ (List.mem_singleton.mpr rfl)))), fun _ => rfl⟩, hF⟩

