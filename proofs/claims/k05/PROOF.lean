import PyProof.Rows.All
import Wide.All
import OpenK.AllK
import Wide.FinOn
import KE.KStateDown
import Lean
import HandS.ForMost
import HandS.Flow
import HandS.Style
import HandS.Wide
import HandS.IsInst
import HandS.TupAny
import HandS.More
import HandS.WordsExc
import HandS.Defaults
import HandS.Lambda
import HandS.Head0
import HandS.Head1
import HandS.Head2
import HandS.HeadEnd
import HandS.HeadHook1
import HandS.HeadHook2
import HandS.EndBits
import HandS.EndTab
import HandS.Walk
import HandS.TryOnly
import HandS.StrSplit
import HandS.ListItems
import HandS.DictComp
import HandS.Set
import HandS.SetTxt0
import HandS.SetBool
import HandS.SetFor
import HandS.Strs
import HandS.Deep
import HandS.Finally
import HandS.Zip
import HandS.Conv
import HandS.NoneIn
import HandS.ExcInit
import HandS.ExcField
import HandS.ExcOwn
import KE.KExcIs
import HandS.HeadHook3
import HandS.HeadHook4
import HandS.HeadWalk
import HandS.WrittenGet
import KE.KRevSl
import KE.KDictZip
import KE.KTurns
import HandS.FStr
import HandS.Remove
import KE.Datum
import PySem.Challenge.RW_controlplane_k05_whole_eight_names_at_mo
set_option Elab.async false
set_option linter.all false
set_option maxRecDepth 100000
set_option maxHeartbeats 4000000
namespace Lk
open PySem PySem.Spec PyProof.Rows L2
def topS (i : Nat) : Stmt := PySem.Challenge.pw_controlplane_k05_whole_eight_names_at_mo.main.body.getD i (.Pass ⟨0, 0, 0, 0⟩)
abbrev s_is_user_name : Stmt := topS 8
abbrev N_is_user_name : List Str := ["value", "sign"]
abbrev ps_is_user_name : List Str := ["value"]
theorem sc_is_user_name : FnScope N_is_user_name ps_is_user_name (defScope s_is_user_name) := ⟨rfl, rfl, rfl, by decide +kernel, rfl, by decide +kernel, by decide +kernel⟩
abbrev s_is_label_value : Stmt := topS 14
abbrev N_is_label_value : List Str := ["value", "sign"]
abbrev ps_is_label_value : List Str := ["value"]
theorem sc_is_label_value : FnScope N_is_label_value ps_is_label_value (defScope s_is_label_value) := ⟨rfl, rfl, rfl, by decide +kernel, rfl, by decide +kernel, by decide +kernel⟩
abbrev s_is_labels : Stmt := topS 15
abbrev N_is_labels : List Str := ["value", "name", "text"]
abbrev ps_is_labels : List Str := ["value"]
theorem sc_is_labels : FnScope N_is_labels ps_is_labels (defScope s_is_labels) := ⟨rfl, rfl, rfl, by decide +kernel, rfl, by decide +kernel, by decide +kernel⟩
abbrev s_requirement : Stmt := topS 16
abbrev N_requirement : List Str := ["text", "found", "name", "value"]
abbrev ps_requirement : List Str := ["text"]
theorem sc_requirement : FnScope N_requirement ps_requirement (defScope s_requirement) := ⟨rfl, rfl, rfl, by decide +kernel, rfl, by decide +kernel, by decide +kernel⟩
abbrev s_rows_of : Stmt := topS 17
abbrev N_rows_of : List Str := ["selector", "parts", "rows", "row", "part"]
abbrev ps_rows_of : List Str := ["selector"]
theorem sc_rows_of : FnScope N_rows_of ps_rows_of (defScope s_rows_of) := ⟨rfl, rfl, rfl, by decide +kernel, rfl, by decide +kernel, by decide +kernel⟩
abbrev s_requirements : Stmt := topS 18
abbrev N_requirements : List Str := ["selector", "found"]
abbrev ps_requirements : List Str := ["selector"]
theorem sc_requirements : FnScope N_requirements ps_requirements (defScope s_requirements) := ⟨rfl, rfl, rfl, by decide +kernel, rfl, by decide +kernel, by decide +kernel⟩
abbrev s_is_fulfilled : Stmt := topS 19
abbrev N_is_fulfilled : List Str := ["row", "labels", "name", "word", "value"]
abbrev ps_is_fulfilled : List Str := ["row", "labels"]
theorem sc_is_fulfilled : FnScope N_is_fulfilled ps_is_fulfilled (defScope s_is_fulfilled) := ⟨rfl, rfl, rfl, by decide +kernel, rfl, by decide +kernel, by decide +kernel⟩
abbrev s_matches : Stmt := topS 20
abbrev N_matches : List Str := ["selector", "labels", "rows", "row"]
abbrev ps_matches : List Str := ["selector", "labels"]
theorem sc_matches : FnScope N_matches ps_matches (defScope s_matches) := ⟨rfl, rfl, rfl, by decide +kernel, rfl, by decide +kernel, by decide +kernel⟩
abbrev s_bound_of : Stmt := topS 21
abbrev N_bound_of : List Str := ["rows", "words", "asked", "excluded", "name", "word", "value"]
abbrev ps_bound_of : List Str := ["rows"]
theorem sc_bound_of : FnScope N_bound_of ps_bound_of (defScope s_bound_of) := ⟨rfl, rfl, rfl, by decide +kernel, rfl, by decide +kernel, by decide +kernel⟩
abbrev s_bounds_of : Stmt := topS 22
abbrev N_bounds_of : List Str := ["rows", "found", "name", "bound", "row"]
abbrev ps_bounds_of : List Str := ["rows"]
theorem sc_bounds_of : FnScope N_bounds_of ps_bounds_of (defScope s_bounds_of) := ⟨rfl, rfl, rfl, by decide +kernel, rfl, by decide +kernel, by decide +kernel⟩
abbrev s_needed : Stmt := topS 23
abbrev N_needed : List Str := ["bounds", "name", "word", "values"]
abbrev ps_needed : List Str := ["bounds"]
theorem sc_needed : FnScope N_needed ps_needed (defScope s_needed) := ⟨rfl, rfl, rfl, by decide +kernel, rfl, by decide +kernel, by decide +kernel⟩
abbrev s_labels_for : Stmt := topS 24
abbrev N_labels_for : List Str := ["bounds", "found", "name", "word", "values", "free", "text"]
abbrev ps_labels_for : List Str := ["bounds"]
theorem sc_labels_for : FnScope N_labels_for ps_labels_for (defScope s_labels_for) := ⟨rfl, rfl, rfl, by decide +kernel, rfl, by decide +kernel, by decide +kernel⟩
abbrev s_meets : Stmt := topS 25
abbrev N_meets : List Str := ["one", "other", "bounds"]
abbrev ps_meets : List Str := ["one", "other"]
theorem sc_meets : FnScope N_meets ps_meets (defScope s_meets) := ⟨rfl, rfl, rfl, by decide +kernel, rfl, by decide +kernel, by decide +kernel⟩
abbrev s_covers : Stmt := topS 26
abbrev N_covers : List Str := ["one", "other", "rows", "others", "name", "word", "value", "bounds"]
abbrev ps_covers : List Str := ["one", "other"]
theorem sc_covers : FnScope N_covers ps_covers (defScope s_covers) := ⟨rfl, rfl, rfl, by decide +kernel, rfl, by decide +kernel, by decide +kernel⟩
abbrev s_texts_of : Stmt := topS 27
abbrev N_texts_of : List Str := ["name", "bound", "word", "values", "value"]
abbrev ps_texts_of : List Str := ["name", "bound"]
theorem sc_texts_of : FnScope N_texts_of ps_texts_of (defScope s_texts_of) := ⟨rfl, rfl, rfl, by decide +kernel, rfl, by decide +kernel, by decide +kernel⟩
abbrev s_normal : Stmt := topS 28
abbrev N_normal : List Str := ["selector", "bounds", "names", "name", "text"]
abbrev ps_normal : List Str := ["selector"]
theorem sc_normal : FnScope N_normal ps_normal (defScope s_normal) := ⟨rfl, rfl, rfl, by decide +kernel, rfl, by decide +kernel, by decide +kernel⟩
abbrev s__law_cell_at : Stmt := topS 30
abbrev N__law_cell_at : List Str := ["_law_script", "_law_k"]
abbrev ps__law_cell_at : List Str := ["_law_script", "_law_k"]
theorem sc__law_cell_at : FnScope N__law_cell_at ps__law_cell_at (defScope s__law_cell_at) := ⟨rfl, rfl, rfl, by decide +kernel, rfl, by decide +kernel, by decide +kernel⟩
abbrev s__law_source : Stmt := topS 31
abbrev N__law_source : List Str := ["_law_cell"]
abbrev ps__law_source : List Str := ["_law_cell"]
theorem sc__law_source : FnScope N__law_source ps__law_source (defScope s__law_source) := ⟨rfl, rfl, rfl, by decide +kernel, rfl, by decide +kernel, by decide +kernel⟩
abbrev s__law_draw : Stmt := topS 32
abbrev N__law_draw : List Str := ["_law_source_here", "_law_size", "_law_digit", "_law_number"]
abbrev ps__law_draw : List Str := ["_law_source_here", "_law_size"]
theorem sc__law_draw : FnScope N__law_draw ps__law_draw (defScope s__law_draw) := ⟨rfl, rfl, rfl, by decide +kernel, rfl, by decide +kernel, by decide +kernel⟩
abbrev s__law_pick : Stmt := topS 33
abbrev N__law_pick : List Str := ["_law_source_here", "_law_items"]
abbrev ps__law_pick : List Str := ["_law_source_here", "_law_items"]
theorem sc__law_pick : FnScope N__law_pick ps__law_pick (defScope s__law_pick) := ⟨rfl, rfl, rfl, by decide +kernel, rfl, by decide +kernel, by decide +kernel⟩
abbrev s__law_value : Stmt := topS 34
abbrev N__law_value : List Str := ["_law_source_here"]
abbrev ps__law_value : List Str := ["_law_source_here"]
theorem sc__law_value : FnScope N__law_value ps__law_value (defScope s__law_value) := ⟨rfl, rfl, rfl, by decide +kernel, rfl, by decide +kernel, by decide +kernel⟩
abbrev s__law_requirement : Stmt := topS 35
abbrev N__law_requirement : List Str := ["_law_source_here", "_law_names", "_law_name", "_law_verb"]
abbrev ps__law_requirement : List Str := ["_law_source_here", "_law_names"]
theorem sc__law_requirement : FnScope N__law_requirement ps__law_requirement (defScope s__law_requirement) := ⟨rfl, rfl, rfl, by decide +kernel, rfl, by decide +kernel, by decide +kernel⟩
abbrev s__law_text : Stmt := topS 36
abbrev N__law_text : List Str := ["_law_rows_here", "_law_found", "_law_name", "_law_verb", "_law_value_here", "_law_mark"]
abbrev ps__law_text : List Str := ["_law_rows_here"]
theorem sc__law_text : FnScope N__law_text ps__law_text (defScope s__law_text) := ⟨rfl, rfl, rfl, by decide +kernel, rfl, by decide +kernel, by decide +kernel⟩
abbrev s__law_rows : Stmt := topS 37
abbrev N__law_rows : List Str := ["_law_source_here", "_law_names", "_law_most", "_law_k"]
abbrev ps__law_rows : List Str := ["_law_source_here", "_law_names", "_law_most"]
theorem sc__law_rows : FnScope N__law_rows ps__law_rows (defScope s__law_rows) := ⟨rfl, rfl, rfl, by decide +kernel, rfl, by decide +kernel, by decide +kernel⟩
abbrev s__law_fulfils : Stmt := topS 38
abbrev N__law_fulfils : List Str := ["_law_rows_here", "_law_labels", "_law_name", "_law_verb", "_law_value_here"]
abbrev ps__law_fulfils : List Str := ["_law_rows_here", "_law_labels"]
theorem sc__law_fulfils : FnScope N__law_fulfils ps__law_fulfils (defScope s__law_fulfils) := ⟨rfl, rfl, rfl, by decide +kernel, rfl, by decide +kernel, by decide +kernel⟩
abbrev s__law_all_labels : Stmt := topS 39
abbrev N__law_all_labels : List Str := ["_law_names", "_law_values", "_law_found", "_law_name", "_law_more", "_law_labels", "_law_value_here"]
abbrev ps__law_all_labels : List Str := ["_law_names", "_law_values"]
theorem sc__law_all_labels : FnScope N__law_all_labels ps__law_all_labels (defScope s__law_all_labels) := ⟨rfl, rfl, rfl, by decide +kernel, rfl, by decide +kernel, by decide +kernel⟩
abbrev s__law_needed : Stmt := topS 40
abbrev N__law_needed : List Str := ["_law_rows_here", "_law_row"]
abbrev ps__law_needed : List Str := ["_law_rows_here"]
theorem sc__law_needed : FnScope N__law_needed ps__law_needed (defScope s__law_needed) := ⟨rfl, rfl, rfl, by decide +kernel, rfl, by decide +kernel, by decide +kernel⟩
abbrev s__law_is_possible : Stmt := topS 41
abbrev N__law_is_possible : List Str := ["_law_rows_here", "_law_name", "_law_own", "_law_asked", "_law_words", "_law_row"]
abbrev ps__law_is_possible : List Str := ["_law_rows_here"]
theorem sc__law_is_possible : FnScope N__law_is_possible ps__law_is_possible (defScope s__law_is_possible) := ⟨rfl, rfl, rfl, by decide +kernel, rfl, by decide +kernel, by decide +kernel⟩
abbrev s__law_case : Stmt := topS 42
abbrev N__law_case : List Str := ["_law_source_here", "_law_names", "_law_rows_here", "_law_name", "_law_more", "_law_k"]
abbrev ps__law_case : List Str := ["_law_source_here"]
theorem sc__law_case : FnScope N__law_case ps__law_case (defScope s__law_case) := ⟨rfl, rfl, rfl, by decide +kernel, rfl, by decide +kernel, by decide +kernel⟩
abbrev s__law_is_covered : Stmt := topS 43
abbrev N__law_is_covered : List Str := ["_law_one", "_law_other", "_law_opposite", "_law_row"]
abbrev ps__law_is_covered : List Str := ["_law_one", "_law_other"]
theorem sc__law_is_covered : FnScope N__law_is_covered ps__law_is_covered (defScope s__law_is_covered) := ⟨rfl, rfl, rfl, by decide +kernel, rfl, by decide +kernel, by decide +kernel⟩
abbrev s__law_normals_right : Stmt := topS 44
abbrev N__law_normals_right : List Str := ["_law_source_here", "_law_rows_here", "_law_at", "_law_asked", "_law_name", "_law_verb", "_law_value_here", "_law_some", "_law_told", "_law_one", "_law_text_here", "_law_other", "_law_second"]
abbrev ps__law_normals_right : List Str := ["_law_source_here", "_law_rows_here"]
theorem sc__law_normals_right : FnScope N__law_normals_right ps__law_normals_right (defScope s__law_normals_right) := ⟨rfl, rfl, rfl, by decide +kernel, rfl, by decide +kernel, by decide +kernel⟩
abbrev s_law : Stmt := topS 45
abbrev N_law : List Str := ["_law_script", "_law_opposite", "_law_cell", "_law_source_here", "_law_rows_here", "_law_more", "_law_one", "_law_other", "_law_told", "_law_rest", "_law_witness", "_law_full", "_law_row", "_law_name"]
abbrev ps_law : List Str := ["_law_script"]
theorem sc_law : FnScope N_law ps_law (defScope s_law) := ⟨rfl, rfl, rfl, by decide +kernel, rfl, by decide +kernel, by decide +kernel⟩
abbrev FnP (K : PySem.W.Frag) (x : Str) (st : Stmt) (dvs : List V) (fd : FuncData) : Prop := FunD K x x (defArgs st) (defBody st) (defScope st) dvs [] (He.ga K x) fd
/-! ### a hook that looks at the statics too -/
abbrev asY (g : Addr → Option Obj) : List Addr := cStatics :: He.asD g 6
def obsY (fa : List He.Fa) (fn : List He.DefD) (ts : List He.Tab) (tf : List He.Defn) (ex : PySem.W.Frag → Bool) (g : Addr → Option Obj) : He.AlX :=
  (He.obsT fa fn ts (He.frT g (asY g)), ex (He.frT g (asY g)) && He.tabsB g tf (He.frT g (asY g)))
theorem saysY {fa : List He.Fa} {fn : List He.DefD} {ts : List He.Tab} {tf : List He.Defn} {ex : PySem.W.Frag → Bool} {w : World} {h : Heap} (e : obsY fa fn ts tf ex h.get? = He.valX fn ts w) : He.SaysX fa fn ts tf ex w h (He.frT h.get? (asY h.get?)) := by
  have both : (ex (He.frT h.get? (asY h.get?)) && He.tabsB h.get? tf (He.frT h.get? (asY h.get?))) = true := congrArg (fun z : He.AlX => z.2) e
  obtain ⟨hx, ht⟩ := Bool.and_eq_true_iff.mp both
  have one : ∀ p ∈ tf, PySem.W.codeHdIn (He.frT h.get? (asY h.get?)) (He.cT (He.frT h.get? (asY h.get?)) p).1 (He.cT (He.frT h.get? (asY h.get?)) p).2 = true ∧ ∃ o, h.get? (He.cT (He.frT h.get? (asY h.get?)) p).2 = some o ∧ He.emptyTab o = true := by
    intro p hp
    obtain ⟨a1, a2⟩ := Bool.and_eq_true_iff.mp (List.all_eq_true.mp ht p hp)
    refine ⟨a1, ?_⟩
    split at a2
    · rename_i o q
      exact ⟨o, q, a2⟩
    · cases a2
  refine ⟨congrArg (fun z : He.AlX => z.1) e, hx, fun p hp => (one p hp).1, ?_, ?_⟩
  · intro p hp
    obtain ⟨_, o, q, z⟩ := one p hp
    exact He.frT_none (o := o) q z
  · intro p hp
    obtain ⟨_, o, q, z⟩ := one p hp
    exact q.trans (congrArg some (He.emptyTab_eq z))
def hookY (fa : List He.Fa) (fn : List He.DefD) (ts : List He.Tab) (tf : List He.Defn) (ex : PySem.W.Frag → Bool) : PySem.W.Hook :=
  { α := He.AlX, obs := fun s => obsY fa fn ts tf ex s.heap.get?, val := fun w => He.valX fn ts w, says := fun w h => ∃ K : PySem.W.Frag, K.In h ∧ He.SaysX fa fn ts tf ex w h K,
    of := fun _ _ e => ⟨_, He.frT_in, saysY e⟩,
    keeps := fun _ _ _ hk k => hk.elim fun K hc => ⟨K, PySem.W.Frag.In.keeps hc.1 k, ⟨hc.2.t, hc.2.more, hc.2.hd, hc.2.out, fun p hp => k _ _ (hc.2.empty p hp)⟩⟩ }
theorem obsY_eq {fa : List He.Fa} {fn : List He.DefD} {ts : List He.Tab} {tf : List He.Defn} {ex : PySem.W.Frag → Bool} {g : Addr → Option Obj} {s : Shared} (h : ∀ a, g a = s.heap.get? a) : obsY fa fn ts tf ex g = (hookY fa fn ts tf ex).obs s := by
  rw [show g = s.heap.get? from funext h]
  rfl
/-! the class at C is an own exception class over ValueError: field by field, each field by a look of its own -/
def lookCls (o : Obj) : Option ClassData := match o.data with | .cls cd => some cd | _ => none
def lookTail (C : Addr) : List Value → Option (List Value)
  | .ref b :: bm => if b = C then some bm else none
  | _ => none
abbrev Slot5 : Type := Option Value × Option Value × Option Value × Option Value × Option Value
def lookSlots (l : List (Option Value)) : Option Slot5 := match l with
  | [k0, k1, k2, k3, some (.builtin n), k5] => if n = "ValueError.__new__" then some (k0, k1, k2, k3, k5) else none
  | _ => none
theorem lookCls_of {o : Obj} {cd : ClassData} (h : lookCls o = some cd) : o.data = .cls cd := by
  unfold lookCls at h; split at h <;> first | (cases h; assumption) | cases h
theorem lookTail_of {C : Addr} : ∀ {l bm : List Value}, lookTail C l = some bm → l = .ref C :: bm := by
  intro l bm h; unfold lookTail at h; split at h
  · split at h <;> first | (subst_vars; cases h; rfl) | cases h
  · cases h
theorem lookSlots_of {l : List (Option Value)} {k : Slot5} (h : lookSlots l = some k) : l = [k.1, k.2.1, k.2.2.1, k.2.2.2.1, some (.builtin "ValueError.__new__"), k.2.2.2.2] := by
  unfold lookSlots at h; split at h
  · split at h <;> first | (subst_vars; cases h; rfl) | cases h
  · cases h
def oexAt (C : Addr) (o : Obj) : Bool := match lookCls o, lookSlots o.slots.toList with
  | some cd, some _ => (match lookTail C cd.mro with | some bm => PySem.HandSPX.refsVE bm | none => false) && (cd.hasDict && (!cd.hasDel && decide (o.cls = .type "type")))
  | _, _ => false
def oexB (K : PySem.W.Frag) (C : Addr) : Bool := (match K.lookup C with | some o => oexAt C o | none => false) && (decide (PySem.W.findIn K (.ref C) "__setattr__" = some (some (.builtin "object.__setattr__"))) && (decide (PySem.W.subIn K (.ref C) (.type "BaseException") = some true) && (decide (PySem.W.typeIn K (.ref C) = some (.type "type")) && PySem.W.keepIn K (.ref C))))
/-- the parts put together again -/
theorem oexAt_of {C : Addr} {o : Obj} (h : oexAt C o = true) : ∃ nm q N bs bm sn sub ab col dd k0 k1 k2 k3 k5, o = excClassObj nm q C N bs bm true sn sub ab col dd k0 k1 k2 k3 k5 "ValueError.__new__" ∧ PySem.HandSPX.refsVE bm = true := by
  unfold oexAt at h
  cases e1 : lookCls o with
  | none => rw [e1] at h; exact Bool.noConfusion h
  | some cd =>
    cases e2 : lookSlots o.slots.toList with
    | none => rw [e1, e2] at h; exact Bool.noConfusion h
    | some k =>
      rw [e1, e2] at h
      have ⟨tail, h⟩ := Bool.and_eq_true_iff.mp h
      have ⟨hasD, h⟩ := Bool.and_eq_true_iff.mp h
      have ⟨noDel, ty⟩ := Bool.and_eq_true_iff.mp h
      cases e3 : lookTail C cd.mro with
      | none => rw [e3] at tail; exact Bool.noConfusion tail
      | some bm =>
        rw [e3] at tail
        have data := lookCls_of e1
        have slots := lookSlots_of e2
        have mro := lookTail_of e3
        have tyE := of_decide_eq_true ty
        clear ty
        have dele : cd.hasDel = false := (Bool.not_eq_true' _).mp noDel
        clear noDel e1 e2 e3 h
        refine ⟨cd.name, cd.qualname, cd.ns, cd.bases, bm, cd.slotNames, cd.subclasses, cd.abstract, cd.collection, o.dict, k.1, k.2.1, k.2.2.1, k.2.2.2.1, k.2.2.2.2, ?_, tail⟩
        obtain ⟨ocls, odict, odata, ⟨osl⟩⟩ := o
        obtain ⟨nm, bs, mr, nsp, qn, hd, sn, sub, ab, col, del⟩ := cd
        dsimp only at data slots mro tyE dele hasD ⊢
        subst data slots mro tyE dele hasD
        rfl
theorem oexB_ok {K : PySem.W.Frag} {C : Addr} (h : oexB K C = true) : OexC K C := by
  unfold oexB at h
  have ⟨at_, h⟩ := Bool.and_eq_true_iff.mp h
  have ⟨sa, h⟩ := Bool.and_eq_true_iff.mp h
  have ⟨exC, h⟩ := Bool.and_eq_true_iff.mp h
  have ⟨tyC, kC⟩ := Bool.and_eq_true_iff.mp h
  cases look : K.lookup C with
  | none => rw [look] at at_; exact Bool.noConfusion at_
  | some o =>
    rw [look] at at_
    have ⟨nm, q, N, bs, bm, sn, sub, ab, col, dd, k0, k1, k2, k3, k5, e, ve⟩ := oexAt_of at_
    exact ⟨⟨nm, q, N, bs, bm, sn, sub, ab, col, dd, k0, k1, k2, k3, k5, e ▸ look, ve⟩, of_decide_eq_true sa, of_decide_eq_true exC, of_decide_eq_true tyC, kC⟩
/-- what isinstance and the fields of a caught error ask of its class -/
def excB (K : PySem.W.Frag) (C : Addr) : Bool := (PySem.W.clsIn K C).isSome && (xfB K C && (decide (PySem.W.findIn K (.ref C) "__class__" = some (some (.builtin "object.__class__"))) &&
  (decide (PySem.W.specialIn K (.builtin "object.__class__") "__get__" = some (some (.builtin "getset_descriptor.__get__"))) && (decide (PySem.W.takesIn K (.builtin "object.__class__") = some true) && decide (PySem.W.mroIn K C (.type "object") = some true)))))
def veiB (K : PySem.W.Frag) : Bool := match PySem.W.findCls K (.type "ValueError") (.type "type") "__init__" with
  | some (.val (.builtin x)) => decide (x = "ValueError.__init__")
  | _ => false
theorem veiB_ok {K : PySem.W.Frag} (h : veiB K = true) : PySem.W.findCls K (.type "ValueError") (.type "type") "__init__" = some (.val (.builtin "ValueError.__init__")) := by
  unfold veiB at h
  split at h
  · rename_i x e
    rw [e, of_decide_eq_true h]
  · cases h
def cfB (K : PySem.W.Frag) (C f : Addr) : Bool := match PySem.W.findCls K (.ref C) (.type "type") "__init__" with
  | some (.val (.ref x)) => decide (x = f)
  | _ => false
theorem cfB_ok {K : PySem.W.Frag} {C f : Addr} (h : cfB K C f = true) : PySem.W.findCls K (.ref C) (.type "type") "__init__" = some (.val (.ref f)) := by
  unfold cfB at h
  split at h
  · rename_i x e
    rw [e, of_decide_eq_true h]
  · cases h
def exL (K : PySem.W.Frag) : List Bool := [veiB K,
  He.valsB K (He.ga K "OPPOSITE") [("is", .str "not"), ("not", .str "is"), ("there", .str "missing"), ("missing", .str "there")]]
def exB (K : PySem.W.Frag) : Bool := (exL K).all id
theorem exAt {K : PySem.W.Frag} (h : exB K = true) (i : Nat) {b : Bool} (e : (exL K)[i]? = some b) : b = true := List.all_eq_true.mp h b (List.mem_of_getElem? e)
structure ExT (K : PySem.W.Frag) : Prop where
  vei : PySem.W.findCls K (.type "ValueError") (.type "type") "__init__" = some (.val (.builtin "ValueError.__init__"))
  val_OPPOSITE : He.valsB K (He.ga K "OPPOSITE") [("is", .str "not"), ("not", .str "is"), ("there", .str "missing"), ("missing", .str "there")] = true
theorem exT {K : PySem.W.Frag} (h : exB K = true) : ExT K := ⟨veiB_ok (exAt h 0 rfl),
  id (exAt h 1 rfl)⟩
structure Txt (K : PySem.W.Frag) (mg : Str → Option Value) (w : World) : Prop where
  g_is_user_name : mg "is_user_name" = some (.ref (He.ga K "is_user_name"))
  d_is_user_name : ∃ fd, FnP K "is_user_name" s_is_user_name [] fd
  g_is_label_value : mg "is_label_value" = some (.ref (He.ga K "is_label_value"))
  d_is_label_value : ∃ fd, FnP K "is_label_value" s_is_label_value [] fd
  g_is_labels : mg "is_labels" = some (.ref (He.ga K "is_labels"))
  d_is_labels : ∃ fd, FnP K "is_labels" s_is_labels [] fd
  g_requirement : mg "requirement" = some (.ref (He.ga K "requirement"))
  d_requirement : ∃ fd, FnP K "requirement" s_requirement [] fd
  g_rows_of : mg "rows_of" = some (.ref (He.ga K "rows_of"))
  d_rows_of : ∃ fd, FnP K "rows_of" s_rows_of [] fd
  g_requirements : mg "requirements" = some (.ref (He.ga K "requirements"))
  d_requirements : ∃ fd, FnP K "requirements" s_requirements [] fd
  g_is_fulfilled : mg "is_fulfilled" = some (.ref (He.ga K "is_fulfilled"))
  d_is_fulfilled : ∃ fd, FnP K "is_fulfilled" s_is_fulfilled [] fd
  g_matches : mg "matches" = some (.ref (He.ga K "matches"))
  d_matches : ∃ fd, FnP K "matches" s_matches [] fd
  g_bound_of : mg "bound_of" = some (.ref (He.ga K "bound_of"))
  d_bound_of : ∃ fd, FnP K "bound_of" s_bound_of [] fd
  g_bounds_of : mg "bounds_of" = some (.ref (He.ga K "bounds_of"))
  d_bounds_of : ∃ fd, FnP K "bounds_of" s_bounds_of [] fd
  g_needed : mg "needed" = some (.ref (He.ga K "needed"))
  d_needed : ∃ fd, FnP K "needed" s_needed [] fd
  g_labels_for : mg "labels_for" = some (.ref (He.ga K "labels_for"))
  d_labels_for : ∃ fd, FnP K "labels_for" s_labels_for [] fd
  g_meets : mg "meets" = some (.ref (He.ga K "meets"))
  d_meets : ∃ fd, FnP K "meets" s_meets [] fd
  g_covers : mg "covers" = some (.ref (He.ga K "covers"))
  d_covers : ∃ fd, FnP K "covers" s_covers [] fd
  g_texts_of : mg "texts_of" = some (.ref (He.ga K "texts_of"))
  d_texts_of : ∃ fd, FnP K "texts_of" s_texts_of [] fd
  g_normal : mg "normal" = some (.ref (He.ga K "normal"))
  d_normal : ∃ fd, FnP K "normal" s_normal [] fd
  g__law_cell_at : mg "_law_cell_at" = some (.ref (He.ga K "_law_cell_at"))
  d__law_cell_at : ∃ fd, FnP K "_law_cell_at" s__law_cell_at [] fd
  g__law_source : mg "_law_source" = some (.ref (He.ga K "_law_source"))
  d__law_source : ∃ fd, FnP K "_law_source" s__law_source [] fd
  g__law_draw : mg "_law_draw" = some (.ref (He.ga K "_law_draw"))
  d__law_draw : ∃ fd, FnP K "_law_draw" s__law_draw [] fd
  g__law_pick : mg "_law_pick" = some (.ref (He.ga K "_law_pick"))
  d__law_pick : ∃ fd, FnP K "_law_pick" s__law_pick [] fd
  g__law_value : mg "_law_value" = some (.ref (He.ga K "_law_value"))
  d__law_value : ∃ fd, FnP K "_law_value" s__law_value [] fd
  g__law_requirement : mg "_law_requirement" = some (.ref (He.ga K "_law_requirement"))
  d__law_requirement : ∃ fd, FnP K "_law_requirement" s__law_requirement [] fd
  g__law_text : mg "_law_text" = some (.ref (He.ga K "_law_text"))
  d__law_text : ∃ fd, FnP K "_law_text" s__law_text [] fd
  g__law_rows : mg "_law_rows" = some (.ref (He.ga K "_law_rows"))
  d__law_rows : ∃ fd, FnP K "_law_rows" s__law_rows [] fd
  g__law_fulfils : mg "_law_fulfils" = some (.ref (He.ga K "_law_fulfils"))
  d__law_fulfils : ∃ fd, FnP K "_law_fulfils" s__law_fulfils [] fd
  g__law_all_labels : mg "_law_all_labels" = some (.ref (He.ga K "_law_all_labels"))
  d__law_all_labels : ∃ fd, FnP K "_law_all_labels" s__law_all_labels [] fd
  g__law_needed : mg "_law_needed" = some (.ref (He.ga K "_law_needed"))
  d__law_needed : ∃ fd, FnP K "_law_needed" s__law_needed [] fd
  g__law_is_possible : mg "_law_is_possible" = some (.ref (He.ga K "_law_is_possible"))
  d__law_is_possible : ∃ fd, FnP K "_law_is_possible" s__law_is_possible [] fd
  g__law_case : mg "_law_case" = some (.ref (He.ga K "_law_case"))
  d__law_case : ∃ fd, FnP K "_law_case" s__law_case [] fd
  g__law_is_covered : mg "_law_is_covered" = some (.ref (He.ga K "_law_is_covered"))
  d__law_is_covered : ∃ fd, FnP K "_law_is_covered" s__law_is_covered [] fd
  g__law_normals_right : mg "_law_normals_right" = some (.ref (He.ga K "_law_normals_right"))
  d__law_normals_right : ∃ fd, FnP K "_law_normals_right" s__law_normals_right [] fd
  g_law : mg "law" = some (.ref (He.ga K "law"))
  d_law : ∃ fd, FnP K "law" s_law [] fd
  g_PlaneError : mg "PlaneError" = some (.ref (He.ga K "PlaneError"))
  g_BadSelector : mg "BadSelector" = some (.ref (He.ga K "BadSelector"))
  g_BadLabels : mg "BadLabels" = some (.ref (He.ga K "BadLabels"))
  n_len : mg "len" = none
  n_int : mg "int" = none
  n_str : mg "str" = none
  n_list : mg "list" = none
  n_dict : mg "dict" = none
  n_set : mg "set" = none
  n_range : mg "range" = none
  n_isinstance : mg "isinstance" = none
  n_all : mg "all" = none
  n_sorted : mg "sorted" = none
  n_zip : mg "zip" = none
  n_ValueError : mg "ValueError" = none
  c_SMALL : ∃ t, mg "SMALL" = some (.str "abcdefghijklmnopqrstuvwxyz" t)
  c_DIGITS : ∃ t, mg "DIGITS" = some (.str "0123456789" t)
  c_MOST_SIGNS : ∃ t, mg "MOST_SIGNS" = some (.int 10 t)
  c_MOST_LABELS : ∃ t, mg "MOST_LABELS" = some (.int 8 t)
  c_MOST_REQUIREMENTS : ∃ t, mg "MOST_REQUIREMENTS" = some (.int 8 t)
  c_MOST_LETTERS : ∃ t, mg "MOST_LETTERS" = some (.int 24 t)
  g_OPPOSITE : mg "OPPOSITE" = some (.ref (He.ga K "OPPOSITE"))
  ex : exB K = true
  kd_OPPOSITE : ∃ es n, KDict K w (He.ga K "OPPOSITE") es n
theorem bi_is_user_name {K : PySem.W.Frag} {fd : FuncData} (F : FnP K "is_user_name" s_is_user_name [] fd) : Binds K fd ps_is_user_name [] := F.bindsN (fun _ _ _ _ _ _ us hl => match us, hl with | [_], _ => rfl)
theorem bi_is_label_value {K : PySem.W.Frag} {fd : FuncData} (F : FnP K "is_label_value" s_is_label_value [] fd) : Binds K fd ps_is_label_value [] := F.bindsN (fun _ _ _ _ _ _ us hl => match us, hl with | [_], _ => rfl)
theorem bi_is_labels {K : PySem.W.Frag} {fd : FuncData} (F : FnP K "is_labels" s_is_labels [] fd) : Binds K fd ps_is_labels [] := F.bindsN (fun _ _ _ _ _ _ us hl => match us, hl with | [_], _ => rfl)
theorem bi_requirement {K : PySem.W.Frag} {fd : FuncData} (F : FnP K "requirement" s_requirement [] fd) : Binds K fd ps_requirement [] := F.bindsN (fun _ _ _ _ _ _ us hl => match us, hl with | [_], _ => rfl)
theorem bi_rows_of {K : PySem.W.Frag} {fd : FuncData} (F : FnP K "rows_of" s_rows_of [] fd) : Binds K fd ps_rows_of [] := F.bindsN (fun _ _ _ _ _ _ us hl => match us, hl with | [_], _ => rfl)
theorem bi_requirements {K : PySem.W.Frag} {fd : FuncData} (F : FnP K "requirements" s_requirements [] fd) : Binds K fd ps_requirements [] := F.bindsN (fun _ _ _ _ _ _ us hl => match us, hl with | [_], _ => rfl)
theorem bi_is_fulfilled {K : PySem.W.Frag} {fd : FuncData} (F : FnP K "is_fulfilled" s_is_fulfilled [] fd) : Binds K fd ps_is_fulfilled [] := F.bindsN (fun _ _ _ _ _ _ us hl => match us, hl with | [_, _], _ => rfl)
theorem bi_matches {K : PySem.W.Frag} {fd : FuncData} (F : FnP K "matches" s_matches [] fd) : Binds K fd ps_matches [] := F.bindsN (fun _ _ _ _ _ _ us hl => match us, hl with | [_, _], _ => rfl)
theorem bi_bound_of {K : PySem.W.Frag} {fd : FuncData} (F : FnP K "bound_of" s_bound_of [] fd) : Binds K fd ps_bound_of [] := F.bindsN (fun _ _ _ _ _ _ us hl => match us, hl with | [_], _ => rfl)
theorem bi_bounds_of {K : PySem.W.Frag} {fd : FuncData} (F : FnP K "bounds_of" s_bounds_of [] fd) : Binds K fd ps_bounds_of [] := F.bindsN (fun _ _ _ _ _ _ us hl => match us, hl with | [_], _ => rfl)
theorem bi_needed {K : PySem.W.Frag} {fd : FuncData} (F : FnP K "needed" s_needed [] fd) : Binds K fd ps_needed [] := F.bindsN (fun _ _ _ _ _ _ us hl => match us, hl with | [_], _ => rfl)
theorem bi_labels_for {K : PySem.W.Frag} {fd : FuncData} (F : FnP K "labels_for" s_labels_for [] fd) : Binds K fd ps_labels_for [] := F.bindsN (fun _ _ _ _ _ _ us hl => match us, hl with | [_], _ => rfl)
theorem bi_meets {K : PySem.W.Frag} {fd : FuncData} (F : FnP K "meets" s_meets [] fd) : Binds K fd ps_meets [] := F.bindsN (fun _ _ _ _ _ _ us hl => match us, hl with | [_, _], _ => rfl)
theorem bi_covers {K : PySem.W.Frag} {fd : FuncData} (F : FnP K "covers" s_covers [] fd) : Binds K fd ps_covers [] := F.bindsN (fun _ _ _ _ _ _ us hl => match us, hl with | [_, _], _ => rfl)
theorem bi_texts_of {K : PySem.W.Frag} {fd : FuncData} (F : FnP K "texts_of" s_texts_of [] fd) : Binds K fd ps_texts_of [] := F.bindsN (fun _ _ _ _ _ _ us hl => match us, hl with | [_, _], _ => rfl)
theorem bi_normal {K : PySem.W.Frag} {fd : FuncData} (F : FnP K "normal" s_normal [] fd) : Binds K fd ps_normal [] := F.bindsN (fun _ _ _ _ _ _ us hl => match us, hl with | [_], _ => rfl)
theorem bi__law_cell_at {K : PySem.W.Frag} {fd : FuncData} (F : FnP K "_law_cell_at" s__law_cell_at [] fd) : Binds K fd ps__law_cell_at [] := F.bindsN (fun _ _ _ _ _ _ us hl => match us, hl with | [_, _], _ => rfl)
theorem bi__law_source {K : PySem.W.Frag} {fd : FuncData} (F : FnP K "_law_source" s__law_source [] fd) : Binds K fd ps__law_source [] := F.bindsN (fun _ _ _ _ _ _ us hl => match us, hl with | [_], _ => rfl)
theorem bi__law_draw {K : PySem.W.Frag} {fd : FuncData} (F : FnP K "_law_draw" s__law_draw [] fd) : Binds K fd ps__law_draw [] := F.bindsN (fun _ _ _ _ _ _ us hl => match us, hl with | [_, _], _ => rfl)
theorem bi__law_pick {K : PySem.W.Frag} {fd : FuncData} (F : FnP K "_law_pick" s__law_pick [] fd) : Binds K fd ps__law_pick [] := F.bindsN (fun _ _ _ _ _ _ us hl => match us, hl with | [_, _], _ => rfl)
theorem bi__law_value {K : PySem.W.Frag} {fd : FuncData} (F : FnP K "_law_value" s__law_value [] fd) : Binds K fd ps__law_value [] := F.bindsN (fun _ _ _ _ _ _ us hl => match us, hl with | [_], _ => rfl)
theorem bi__law_requirement {K : PySem.W.Frag} {fd : FuncData} (F : FnP K "_law_requirement" s__law_requirement [] fd) : Binds K fd ps__law_requirement [] := F.bindsN (fun _ _ _ _ _ _ us hl => match us, hl with | [_, _], _ => rfl)
theorem bi__law_text {K : PySem.W.Frag} {fd : FuncData} (F : FnP K "_law_text" s__law_text [] fd) : Binds K fd ps__law_text [] := F.bindsN (fun _ _ _ _ _ _ us hl => match us, hl with | [_], _ => rfl)
theorem bi__law_rows {K : PySem.W.Frag} {fd : FuncData} (F : FnP K "_law_rows" s__law_rows [] fd) : Binds K fd ps__law_rows [] := F.bindsN (fun _ _ _ _ _ _ us hl => match us, hl with | [_, _, _], _ => rfl)
theorem bi__law_fulfils {K : PySem.W.Frag} {fd : FuncData} (F : FnP K "_law_fulfils" s__law_fulfils [] fd) : Binds K fd ps__law_fulfils [] := F.bindsN (fun _ _ _ _ _ _ us hl => match us, hl with | [_, _], _ => rfl)
theorem bi__law_all_labels {K : PySem.W.Frag} {fd : FuncData} (F : FnP K "_law_all_labels" s__law_all_labels [] fd) : Binds K fd ps__law_all_labels [] := F.bindsN (fun _ _ _ _ _ _ us hl => match us, hl with | [_, _], _ => rfl)
theorem bi__law_needed {K : PySem.W.Frag} {fd : FuncData} (F : FnP K "_law_needed" s__law_needed [] fd) : Binds K fd ps__law_needed [] := F.bindsN (fun _ _ _ _ _ _ us hl => match us, hl with | [_], _ => rfl)
theorem bi__law_is_possible {K : PySem.W.Frag} {fd : FuncData} (F : FnP K "_law_is_possible" s__law_is_possible [] fd) : Binds K fd ps__law_is_possible [] := F.bindsN (fun _ _ _ _ _ _ us hl => match us, hl with | [_], _ => rfl)
theorem bi__law_case {K : PySem.W.Frag} {fd : FuncData} (F : FnP K "_law_case" s__law_case [] fd) : Binds K fd ps__law_case [] := F.bindsN (fun _ _ _ _ _ _ us hl => match us, hl with | [_], _ => rfl)
theorem bi__law_is_covered {K : PySem.W.Frag} {fd : FuncData} (F : FnP K "_law_is_covered" s__law_is_covered [] fd) : Binds K fd ps__law_is_covered [] := F.bindsN (fun _ _ _ _ _ _ us hl => match us, hl with | [_, _], _ => rfl)
theorem bi__law_normals_right {K : PySem.W.Frag} {fd : FuncData} (F : FnP K "_law_normals_right" s__law_normals_right [] fd) : Binds K fd ps__law_normals_right [] := F.bindsN (fun _ _ _ _ _ _ us hl => match us, hl with | [_, _], _ => rfl)
theorem bi_law {K : PySem.W.Frag} {fd : FuncData} (F : FnP K "law" s_law [] fd) : Binds K fd ps_law [] := F.bindsN (fun _ _ _ _ _ _ us hl => match us, hl with | [_], _ => rfl)

/-! ### the heap: what a def with a source of draws leaves -/
/-- all that was tracked, but what stands at a, is as it was -/
def Keep (a : Addr) (H H' : Hp) : Prop := ∀ b o, b ≠ a → H b = some o → H' b = some o
theorem Keep.refl (a : Addr) (H : Hp) : Keep a H H := fun _ _ _ h => h
theorem Keep.trans {a : Addr} {H H1 H2 : Hp} (x : Keep a H H1) (y : Keep a H1 H2) : Keep a H H2 := fun b o n h => y b o n (x b o n h)
theorem Keep.of {a : Addr} {H H1 : Hp} (x : Same H H1) : Keep a H H1 := fun b o _ h => x b o h
theorem Keep.at_ {a : Addr} {H : Hp} {u : HO} : Keep a H (upd H a u) := fun b o n h => by rw [upd_ne n]; exact h
theorem Same.new {H : Hp} {p : Addr} {u : HO} (n : H p = none) : Same H (upd H p u) := fun b o h => by rw [upd_ne (ne_of_none h n)]; exact h
theorem Keep.new {a : Addr} {H : Hp} {p : Addr} {u : HO} (n : H p = none) : Keep a H (upd H p u) := Keep.of (Same.new n)
theorem Keep.seqL {K : PySem.W.Frag} {a b : Addr} {H H1 : Hp} {xs : List V} (x : Keep a H H1) (n : b ≠ a) (h : SqL K H b xs) : SqL K H1 b xs := by
  rcases h with (h | ⟨o, h⟩) | h
  · exact .inl (.inl (x _ _ n h))
  · exact .inl (.inr ⟨o, x _ _ n h⟩)
  · exact .inr h
theorem Keep.seqT {K : PySem.W.Frag} {a b : Addr} {H H1 : Hp} {xs : List V} (x : Keep a H H1) (n : b ≠ a) (h : SqT K H b xs) : SqT K H1 b xs := by
  rcases h with (h | ⟨o, h⟩) | h
  · exact .inl (.inl (x _ _ n h))
  · exact .inl (.inr ⟨o, x _ _ n h⟩)
  · exact .inr h
/-- a flat value: None, a bool, an int, a text -/
def flat : V → Prop
  | .non => True
  | .bl _ => True
  | .int _ => True
  | .str _ => True
  | _ => False
def tyNm : V → Value
  | .non => .type "NoneType"
  | .bl _ => .type "bool"
  | .int _ => .type "int"
  | _ => .type "str"
theorem flat_ty {K : PySem.W.Frag} {H : Hp} {x : V} (h : flat x) : TyX K H x (tyNm x) := by
  cases x with
  | non => exact .base .non
  | bl b => exact .base (.bl b)
  | int i => exact .base (.int i)
  | str z => exact .base (.str z)
  | byt _ => exact h.elim
  | flt _ => exact h.elim
  | ref _ => exact h.elim
  | ty _ => exact h.elim
theorem small3 : (3 : Nat) ≤ sizeLine := by rw [sizeLine_eq]; decide
theorem smallN {n : Nat} (h : n ≤ 1000) : n ≤ sizeLine := Nat.le_of_lt (small1000 h)
theorem yes_ {σ : L2.St} {H : Hp} {Q : Bool → Hp → Prop} (h : Q true H) : tYes σ H Q := h
theorem get_take {α : Type} {xs : List α} {i : Nat} {x : α} (h : xs[i]? = some x) : xs.take (i + 1) = xs.take i ++ [x] := by
  rw [List.take_succ, h]; rfl
theorem mem_at {α : Type} {xs : List α} {i : Nat} {x : α} (h : xs[i]? = some x) : x ∈ xs := List.mem_of_getElem? h
theorem lt_at {α : Type} {xs : List α} {i : Nat} {x : α} (h : xs[i]? = some x) : i < xs.length := (List.getElem?_eq_some_iff.mp h).1
/-! ### flat values as data -/
def dOf : V → PyData
  | .bl b => .bool b
  | .int i => .int i
  | .str z => .str z
  | _ => .none
theorem dp_flat {K : PySem.W.Frag} {H : Hp} {x : V} (h : flat x) : Dp K H x (dOf x) := by
  cases x with
  | non => exact .non
  | bl b => exact .bl b
  | int i => exact .int i
  | str z => exact .str z
  | byt _ => exact h.elim
  | flt _ => exact h.elim
  | ref _ => exact h.elim
  | ty _ => exact h.elim
theorem dps_flat {K : PySem.W.Frag} {H : Hp} : ∀ {xs : List V}, (∀ x ∈ xs, flat x) → DpAll K H xs (xs.map dOf)
  | [], _ => .nil
  | x :: xs, h => .cons (dp_flat (h x (List.mem_cons_self ..))) (dps_flat fun y hy => h y (List.mem_cons_of_mem _ hy))
/-- a text of signs that there are -/
def okS : V → Prop
  | .str z => PyData.strOk z = true
  | _ => True
theorem lay_flat {x : V} (h : okS x) : (dOf x).canLay0 = true := by
  cases x with
  | str z => exact (show PyData.canLay0 (.str z) = true by simpa [PyData.canLay0, okS] using h)
  | _ => simp [dOf, PyData.canLay0]
theorem lays_flat : ∀ {xs : List V}, (∀ x ∈ xs, okS x) → PyData.canLayAll0 (xs.map dOf) = true
  | [], _ => by simp [PyData.canLayAll0]
  | x :: xs, h => by simp [PyData.canLayAll0, lay_flat (h x (List.mem_cons_self ..)), lays_flat (xs := xs) fun y hy => h y (List.mem_cons_of_mem _ hy)]
theorem dep_flat (x : V) : (dOf x).depth = 0 := by cases x <;> simp [dOf, PyData.depth]
theorem deps_flat : ∀ xs : List V, PyData.depthAll (xs.map dOf) = 0
  | [] => by simp [PyData.depthAll]
  | x :: xs => by simp [PyData.depthAll, dep_flat x, deps_flat xs]
theorem sh_flat {x : V} (h : okS x) : SeqAt.shaped (dOf x) = true := by simp [SeqAt.shaped, lay_flat h, dep_flat x]
theorem sh_list {xs : List V} (h : ∀ x ∈ xs, okS x) : SeqAt.shaped (.list (xs.map dOf)) = true := by simp [SeqAt.shaped, PyData.canLay0, PyData.depth, lays_flat h, deps_flat xs]
theorem sh_tup {xs : List V} (h : ∀ x ∈ xs, okS x) : SeqAt.shaped (.tuple (xs.map dOf)) = true := by simp [SeqAt.shaped, PyData.canLay0, PyData.depth, lays_flat h, deps_flat xs]
theorem eqv_nil (xs : List V) : PyData.eqv (.list (xs.map dOf)) (.list []) = xs.isEmpty := by
  cases xs <;> simp [PyData.eqv, PyData.eqvAll]
/-- len of a list or a tuple, within a comprehension -/
def rLenK (K : PySem.W.Frag) : List V → Hp → VK → Prop := fun xs H Q => ∃ p ys, xs = [V.ref p] ∧ (SqL K H p ys ∨ SqT K H p ys) ∧ Q (V.int ys.length) H
/-- dict(pairs), within a comprehension -/
def rDictP (K : PySem.W.Frag) : List V → Hp → VK → Prop := fun xs H Q => ∃ (a : Addr) (ps : List Addr) (kvs : List (Key × V)), xs = [.ref a] ∧ SqL K H a (ps.map V.ref) ∧ Paired (fun p kv => SqT K H p [kV kv.1, kv.2]) ps kvs ∧
  ∀ p, H p = none → Q (.ref p) (upd H p (.dK (mergeK [] kvs)))
theorem lay_same {H H' : Hp} {l : Addr} {u : HO} (e : upd H l u = H') (h : H l = none) : Same H H' := e ▸ Same.new h
theorem lay_at {H H' : Hp} {l : Addr} {u : HO} (e : upd H l u = H') : H' l = some u := e ▸ upd_same
/-- a list that nothing writes -/
def SqF (K : PySem.W.Frag) (H : Hp) (a : Addr) (xs : List V) : Prop := (∃ o, H a = some (.frz o (.lst xs))) ∨ SqL K (fun _ => none) a xs
theorem SqF.seq {K : PySem.W.Frag} {H : Hp} {a : Addr} {xs : List V} (h : SqF K H a xs) : SqL K H a xs := by
  rcases h with ⟨o, h⟩ | ((h | ⟨o, h⟩) | h)
  · exact .inl (.inr ⟨o, h⟩)
  · cases h
  · cases h
  · exact .inr h

/-! ### the source of draws: [digits, a number, a count] -/
def WellO (u : HO) (n : Nat) : Prop := ∃ x y : Int, u = .lst [.int x, .int y, .int (n : Int)] ∧ 0 ≤ y ∧ y < 2147483647
def WellAt (H : Hp) (a : Addr) (n : Nat) : Prop := ∃ u, H a = some u ∧ WellO u n
def sp__law_cell_at (K : PySem.W.Frag) : Sp := fun vs H Q _ => ∃ (a : Addr) (ns : List Int), vs = [.ref a, .int 0] ∧ SqL K H a (ns.map V.int) ∧ ∀ i : Int, Q (.int i) H
theorem ok__law_cell_at {P : Program} {w : World} {K : PySem.W.Frag} {mg : Str → Option Value} {base : Heap} {fd : FuncData} (T : Txt K mg w) (F : FnP K "_law_cell_at" s__law_cell_at [] fd) : FnOk P w K mg base CX0 1 (He.ga K "_law_cell_at") fd ps__law_cell_at (sp__law_cell_at K) := by
  refine F.ok sc__law_cell_at (fun vs H Q E h => ?len) (fun cdv A outer s H vs Q E hr h => ?body)
  case len => obtain ⟨a, ns, rfl, hS, k⟩ := h; rfl
  case body =>
  obtain ⟨a, ns, rfl, hS, k⟩ := h
  have hu := hu_of hr
  refine ⟨_, PSs.nox (pss_cons (ps_if (pt_cmpR op_lt (pv 1) (pe_callB call_len_seq (by rfl) T.n_len (by decide +kernel) (pa_cons (pv 0) pa_nil)) (nomark _)) (pss_one (ps_ret (pe_ix ix_list (pv 0) (pv 1) (fun _ _ => rfl)))) pss_nil)
    (pss_one (ps_ret pe_int))), ?_⟩
  refine ⟨_, rfl, _, rfl, a, _, rfl, .inl hS, _, _, rfl, rfl, _, rfl, ?_⟩
  refine ite2 (fun hlt => ?_) (fun _ => k 0)
  cases ns with
  | nil => simp at hlt
  | cons i r => exact ⟨_, rfl, _, rfl, a, _, 0, .int i, rfl, rfl, hS, atI_nat (j := 0) rfl, k i⟩
def sp__law_source (K : PySem.W.Frag) : Sp := fun vs H Q _ => ∃ (i : Int), vs = [.int i] ∧ ∀ (a : Addr) (u : HO), H a = none → WellO u 0 → Q (.ref a) (upd H a u)
theorem mod_lt' (z : Int) {m : Int} (h : 0 < m) : 0 ≤ z % m ∧ z % m < m := ⟨Int.emod_nonneg _ (by omega), Int.emod_lt_of_pos _ h⟩
theorem ok__law_source {P : Program} {w : World} {K : PySem.W.Frag} {mg : Str → Option Value} {base : Heap} {fd : FuncData} (T : Txt K mg w) (F : FnP K "_law_source" s__law_source [] fd) : FnOk P w K mg base CX0 1 (He.ga K "_law_source") fd ps__law_source (sp__law_source K) := by
  refine F.ok sc__law_source (fun vs H Q E h => ?len) (fun cdv A outer s H vs Q E hr h => ?body)
  case len => obtain ⟨i, rfl, k⟩ := h; rfl
  case body =>
  obtain ⟨i, rfl, k⟩ := h
  have hu := hu_of hr
  refine ⟨_, PSs.nox (pss_one (ps_ret (pe_lst (pa_cons (pe_op op_mul (pv 0) (pe_callTy call_int1 (by rfl) T.n_int (by decide +kernel) (pa_cons (pe_cmpR op_ge (pv 0) (pe_op op_pow pe_int pe_int) (nomark _)) pa_nil))) (pa_cons (pe_op op_mod (pe_callTy call_int1 (by rfl) T.n_int (by decide +kernel) (pa_cons (pv 0) pa_nil)) pe_int) (pa_cons pe_int pa_nil)))))), ?_⟩
  refine ⟨_, rfl, _, rfl, _, _, rfl, rfl, ⟨by decide, by decide, by decide⟩, _, _, rfl, rfl, .inr ⟨_, rfl, _, _, rfl, rfl, .inr ?_, _, rfl, .inl ⟨_, rfl, _, _, rfl, rfl, (by show (0 : Int) < 2147483647; decide), smallN (by show 3 ≤ 1000; decide), fun p hp => k p _ hp ⟨_, _, rfl, mod_lt' i (by decide)⟩⟩⟩⟩
  split <;> constructor <;> decide
/-- a number from 0 to m - 1; the source goes on -/
def sp__law_draw (K : PySem.W.Frag) : Sp := fun vs H Q _ => ∃ (a : Addr) (n : Nat) (m : Int), vs = [.ref a, .int m] ∧ WellAt H a n ∧ n < 1000000 ∧ 0 < m ∧ m ≤ 1000000000 ∧
  ∀ (r : Int) (u : HO) (n' : Nat), 0 ≤ r → r < m → n' ≤ n + 1 → WellO u n' → Q (.int r) (upd H a u)
theorem natAbs_lt64 {z : Int} (h1 : -(2 ^ 40) < z) (h2 : z < 2 ^ 40) : z.natAbs < 2 ^ 64 := by omega
theorem wdiv {i j : Int} (h : 0 < j) (h2 : j ≤ 2 ^ 32) : CDivW i j := wide_div (b := 40) h (by omega) (by decide) (by decide)
theorem ok__law_draw {P : Program} {w : World} {K : PySem.W.Frag} {mg : Str → Option Value} {base : Heap} {fd : FuncData} (T : Txt K mg w) (F : FnP K "_law_draw" s__law_draw [] fd) : FnOk P w K mg base CX0 1 (He.ga K "_law_draw") fd ps__law_draw (sp__law_draw K) := by
  refine F.ok sc__law_draw (fun vs H Q E h => ?len) (fun cdv A outer s H vs Q E hr h => ?body)
  case len => obtain ⟨a, n, m, rfl, ⟨u, hu0, x, y, rfl, y0, y1⟩, hn, hm, hm2, k⟩ := h; rfl
  case body =>
  obtain ⟨a, n, m, rfl, ⟨u, hu0, x, y, rfl, y0, y1⟩, hn, hm, hm2, k⟩ := h
  have hu := hu_of hr
  refine ⟨_, PSs.nox (pss_cons (ps_if (pt_cmpR op_gt (pe_ix ix_list (pv 0) pe_int (fun _ _ => rfl)) pe_int (nomark _)) (pss_cons (ps_set (i := 2) sc__law_draw.nd rfl (Or.inl rfl) (pe_op op_mod (pe_callTy call_int1 (by rfl) T.n_int (by decide +kernel) (pa_cons (pe_ix ix_list (pv 0) pe_int (fun _ _ => rfl)) pa_nil)) (pv 1)))
      (pss_cons (ps_asg (pe_op op_fdivW (pe_ix ix_list (pv 0) pe_int (fun _ _ => rfl)) (pv 1)) (pg_sub (pv 0) pe_int set_list))
      (pss_one (ps_ret (pv 2))))) pss_nil)
    (pss_cons (ps_asg (pe_op op_add (pe_ix ix_list (pv 0) pe_int (fun _ _ => rfl)) pe_int) (pg_sub (pv 0) pe_int set_list))
    (pss_cons (ps_set (i := 3) sc__law_draw.nd rfl (Or.inl rfl) (pe_op op_mod (pe_callTy call_int1 (by rfl) T.n_int (by decide +kernel) (pa_cons (pe_op op_pow (pe_op op_add (pe_op op_add (pe_ix ix_list (pv 0) pe_int (fun _ _ => rfl)) (pe_op op_mul pe_int (pe_ix ix_list (pv 0) pe_int (fun _ _ => rfl)))) pe_int) pe_int) pa_nil)) pe_int))
    (pss_cons (ps_set (i := 3) sc__law_draw.nd rfl (Or.inl rfl) (pe_op op_mod (pe_callTy call_int1 (by rfl) T.n_int (by decide +kernel) (pa_cons (pe_op op_mul (pv 3) (pe_op op_add (pe_op op_add (pe_op op_fdivW (pv 3) pe_int) pe_int) (pe_ix ix_list (pv 0) pe_int (fun _ _ => rfl)))) pa_nil)) pe_int))
    (pss_one (ps_ret (pe_op op_mod (pe_callTy call_int1 (by rfl) T.n_int (by decide +kernel) (pa_cons (pe_op op_fdivW (pe_op op_mod (pe_callTy call_int1 (by rfl) T.n_int (by decide +kernel) (pa_cons (pe_op op_mul (pv 3) (pe_op op_add (pe_op op_fdivW (pv 3) pe_int) pe_int)) pa_nil)) pe_int) pe_int) pa_nil)) (pv 1)))))))), ?_⟩
  have hS : SqL K H a [.int x, .int y, .int (n : Int)] := SqL.of hu0
  refine ⟨_, rfl, a, _, 0, _, rfl, rfl, hS, rfl, _, _, rfl, rfl, _, rfl, ?_⟩
  refine ite2 (fun hx => ?_) (fun hx => ?_)
  · refine ⟨_, rfl, a, _, 0, _, rfl, rfl, hS, rfl, .inl ⟨_, rfl, _, rfl, _, _, rfl, rfl, hm, ?_⟩⟩
    refine ⟨_, rfl, a, _, 0, _, rfl, rfl, hS, rfl, _, rfl, _, _, rfl, rfl, wdiv hm (by omega), _, rfl, a, _, _, 0, rfl, rfl, hu0, rfl, _, rfl, ?_⟩
    exact k _ _ n (mod_lt' x hm).1 (mod_lt' x hm).2 (Nat.le_succ _) ⟨_, _, rfl, y0, y1⟩
  · refine ⟨_, rfl, a, _, 2, _, rfl, rfl, hS, rfl, _, _, rfl, rfl, _, rfl, a, _, _, 2, rfl, rfl, hu0, rfl, ?_⟩
    have hu1 : upd H a (.lst ([.int x, .int y, .int (n : Int)].set 2 (.int ((n : Int) + 1)))) a = some (.lst [.int x, .int y, .int ((n : Int) + 1)]) := upd_same
    have hS1 : SqL K (upd H a (.lst ([.int x, .int y, .int (n : Int)].set 2 (.int ((n : Int) + 1))))) a [.int x, .int y, .int ((n : Int) + 1)] := SqL.of hu1
    refine ⟨_, rfl, a, _, 1, _, rfl, rfl, hS1, rfl, _, rfl, a, _, 2, _, rfl, rfl, hS1, rfl, _, _, rfl, rfl, .inl ⟨by decide, by decide⟩, _, _, rfl, rfl, _, _, rfl, rfl, _, _, rfl, rfl, ⟨by decide, by decide, natAbs_lt64 (by omega) (by omega)⟩, .inl ⟨_, rfl, _, _, rfl, rfl, (by show (0 : Int) < 2147483629; decide), ?_⟩⟩
    have b3 := mod_lt' ((y + 7919 * ((n : Int) + 1) + 1) ^ (5 : Int).toNat) (m := 2147483629) (by decide)
    generalize (y + 7919 * ((n : Int) + 1) + 1) ^ (5 : Int).toNat % 2147483629 = e3 at b3 ⊢
    refine ⟨_, rfl, _, rfl, _, _, rfl, rfl, wdiv (by decide) (by decide), _, _, rfl, rfl, _, rfl, a, _, 2, _, rfl, rfl, hS1, rfl, _, _, rfl, rfl, _, _, rfl, rfl, .inl ⟨by omega, by omega⟩, .inl ⟨_, rfl, _, _, rfl, rfl, (by show (0 : Int) < 2147483587; decide), ?_⟩⟩
    have b4 := mod_lt' (e3 * (e3 / 1009 + 69621 + ((n : Int) + 1))) (m := 2147483587) (by decide)
    generalize e3 * (e3 / 1009 + 69621 + ((n : Int) + 1)) % 2147483587 = e4 at b4 ⊢
    refine ⟨_, rfl, _, rfl, _, _, rfl, rfl, wdiv (by decide) (by decide), _, _, rfl, rfl, _, _, rfl, rfl, .inl ⟨by omega, by omega⟩, .inl ⟨_, rfl, _, _, rfl, rfl, (by show (0 : Int) < 2147483579; decide), _, _, rfl, rfl, wdiv (by decide) (by decide), .inl ⟨_, rfl, _, rfl, _, _, rfl, rfl, hm, ?_⟩⟩⟩
    exact k _ _ (n + 1) (mod_lt' _ hm).1 (mod_lt' _ hm).2 (Nat.le_refl _) ⟨_, _, rfl, y0, y1⟩

/-! ### one of some values -/
theorem well_ne {H : Hp} {a b : Addr} {n : Nat} {o : HO} (h : WellAt H a n) (hb : H b = some o) (ho : ∀ xs, o = .lst xs → xs.length ≠ 3) : b ≠ a := by
  obtain ⟨u, hu, x, y, rfl, _⟩ := h
  exact ne_of hb hu fun z => ho _ z rfl
theorem well_ne3 {H : Hp} {a p : Addr} {n : Nat} (h : WellAt H a n) (hp : H p = none) : p ≠ a := by
  obtain ⟨u, hu, _⟩ := h
  exact fun z => by rw [z, hu] at hp; cases hp
theorem well_upd {H : Hp} {a : Addr} {n : Nat} {u : HO} (h : WellO u n) : WellAt (upd H a u) a n := ⟨u, upd_same, h⟩
theorem well_new {H : Hp} {a p : Addr} {n : Nat} {u : HO} (h : WellAt H a n) (hp : H p = none) : WellAt (upd H p u) a n := by
  obtain ⟨v, hv, w⟩ := h
  exact ⟨v, by rw [upd_ne (ne_of_none hv hp)]; exact hv, w⟩
def sp__law_pick (K : PySem.W.Frag) : Sp := fun vs H Q _ => ∃ (a b : Addr) (n : Nat) (ys : List V), vs = [.ref a, .ref b] ∧ WellAt H a n ∧ n < 1000000 ∧ H b = some (.lst ys) ∧ b ≠ a ∧ 0 < ys.length ∧ ys.length ≤ 1000 ∧
  ∀ (y : V) (u : HO) (n' : Nat), y ∈ ys → n' ≤ n + 1 → WellO u n' → Q y (upd H a u)
theorem ok__law_pick {P : Program} {w : World} {K : PySem.W.Frag} {mg : Str → Option Value} {base : Heap} {fd : FuncData} (T : Txt K mg w) (F : FnP K "_law_pick" s__law_pick [] fd) : FnOk P w K mg base CX0 2 (He.ga K "_law_pick") fd ps__law_pick (sp__law_pick K) := by
  obtain ⟨fd__law_draw, F__law_draw⟩ := T.d__law_draw
  have G__law_draw := ok__law_draw (P := P) (w := w) (base := base) T F__law_draw
  have k__law_draw := F__law_draw.kp
  have b__law_draw := bi__law_draw F__law_draw
  refine F.ok sc__law_pick (fun vs H Q E h => ?len) (fun cdv A outer s H vs Q E hr h => ?body)
  case len => obtain ⟨a, b, n, ys, rfl, hw, hn, hb, hne, h0, h1, k⟩ := h; rfl
  case body =>
  obtain ⟨a, b, n, ys, rfl, hw, hn, hb, hne, h0, h1, k⟩ := h
  have hu := hu_of hr
  refine ⟨_, PSs.nox (pss_one (ps_ret (pe_ix ix_list (pv 1) (pe_call G__law_draw (hr.mono (by first | decide | omega)) rfl T.g__law_draw k__law_draw b__law_draw .nil pass0 (pa_cons (pv 0) (pa_cons (pe_callB call_len_seq (by rfl) T.n_len (by decide +kernel) (pa_cons (pv 1) pa_nil)) pa_nil))) (fun _ _ => rfl)))), ?_⟩
  refine ⟨_, rfl, _, rfl, _, rfl, b, ys, rfl, .inl (SqL.of hb), a, n, _, rfl, hw, hn, (by omega), (by omega), fun r u n' r0 r1 hn' hu' => ?_⟩
  have hb' : upd H a u b = some (.lst ys) := by rw [upd_ne hne]; exact hb
  obtain ⟨j, rfl⟩ := Int.eq_ofNat_of_zero_le r0
  have hj : j < ys.length := by omega
  have e : ys[j]? = some ys[j] := List.getElem?_eq_getElem hj
  exact ⟨b, ys, _, ys[j], rfl, rfl, SqL.of hb', atI_nat e, k _ u n' (List.getElem_mem hj) hn' hu'⟩

theorem kdct_of {K : PySem.W.Frag} {w : World} {a : Addr} {kvs : List (Str × He.Dv)} (h : ∃ es n, KDict K w a es n) (hv : He.valsB K a kvs = true) {q : Str × He.Dv} (hq : q ∈ kvs) : KDct K w a q.1 (q.2.v K) := by
  obtain ⟨es, n, hl, hk, _⟩ := h
  obtain ⟨u, e, r⟩ := He.valsB_ok hv hq
  exact ⟨es, n, u, hl, hk, e, r⟩

/-! ### names and label values -/
def tl (z : Str) : List Nat := z.cps.toList
def smallT : Str := "abcdefghijklmnopqrstuvwxyz"
def digitT : Str := "0123456789"
def inSm (c : Nat) : Bool := decide (c ∈ tl smallT)
def inSD (c : Nat) : Bool := decide (c ∈ tl (smallT ++ digitT))
def inSDH (c : Nat) : Bool := decide (c ∈ tl (smallT ++ digitT ++ "-"))
def firstSm : List Nat → Bool
  | c :: _ => inSm c
  | [] => false
/-- a user name; a label value -/
def userB (z : Str) : Bool := decide (1 ≤ z.length ∧ z.length ≤ 10) && (firstSm (tl z) && (tl z).all inSD)
def lvalB (z : Str) : Bool := decide (z.length ≤ 24) && (tl z).all inSDH
theorem len_tl (z : Str) : z.length = (tl z).length := by
  unfold tl; rw [Array.length_toList]; rfl
theorem kit_str {K : PySem.W.Frag} : PySem.W.kitOne K (.type "str") (.type "str") = some true := kit_ty (show kitB "str" "str" = some true by decide +kernel)
def sp_is_user_name (K : PySem.W.Frag) : Sp := fun vs H Q _ => ∃ (z : Str), vs = [.str z] ∧ z.length ≤ 100000 ∧ ∀ H', Same H H' → Q (.bl (userB z)) H'
theorem small5 {n : Nat} (h : n ≤ 100000) : n ≤ sizeLine := by rw [sizeLine_eq]; omega
theorem small5' {n : Nat} (h : n ≤ 100000) : n < sizeLine := by rw [sizeLine_eq]; omega
/-- a list of bools made sign by sign -/
theorem take_at {z : Str} {i : Nat} {c : Nat} (h : z.cps[i]? = some c) : (tl z)[i]? = some c := by
  unfold tl; rw [Array.getElem?_toList]; exact h
theorem size_tl (z : Str) : z.cps.size = (tl z).length := by unfold tl; rw [Array.length_toList]
theorem ok_is_user_name {P : Program} {w : World} {K : PySem.W.Frag} {mg : Str → Option Value} {base : Heap} {fd : FuncData} (T : Txt K mg w) (F : FnP K "is_user_name" s_is_user_name [] fd) : FnOk P w K mg base CX0 1 (He.ga K "is_user_name") fd ps_is_user_name (sp_is_user_name K) := by
  obtain ⟨t_SMALL, h_SMALL⟩ := T.c_SMALL
  obtain ⟨t_DIGITS, h_DIGITS⟩ := T.c_DIGITS
  obtain ⟨t_MOST_SIGNS, h_MOST_SIGNS⟩ := T.c_MOST_SIGNS
  refine F.ok sc_is_user_name (fun vs H Q E h => ?len) (fun cdv A outer s H vs Q E hr h => ?body)
  case len => obtain ⟨z, rfl, hz, k⟩ := h; rfl
  case body =>
  obtain ⟨z, rfl, hz, k⟩ := h
  have hu := hu_of hr
  refine ⟨_, PSs.nox (pss_cons (ps_if (PW.pt (pw_or (pt_not (pt_val (pe_callB call_isi (by rfl) T.n_isinstance (by decide +kernel) (pa_cons (pv 0) (pa_cons (pe_bltn (v := .ty "str") rfl T.n_str (by decide +kernel) rfl) pa_nil))))) (pw_or (pt_not (pt_chain op_le op_le pe_int (pe_callB call_len_str (by rfl) T.n_len (by decide +kernel) (pa_cons (pv 0) pa_nil)) (pe_glob (v := .int 10) rfl h_MOST_SIGNS ⟨_, rfl⟩))) (pw_or1 (pt_cmpR op_notIn_sign (pe_ix ix_str (pv 0) pe_int (fun _ _ => rfl)) (pe_glob (v := .str "abcdefghijklmnopqrstuvwxyz") rfl h_SMALL ⟨_, rfl⟩) (by rfl)))))) (pss_one (ps_ret pe_bl)) pss_nil)
    (pss_one (ps_ret (pe_callB (cr_all rfl) (by rfl) T.n_all (by decide +kernel) (pa_cons (pe_lc (own := [("sign", 1)]) rfl sc_is_user_name.nd (pi_str (pv 0)) (blkOk_by (own := [("sign", 1)]) (N := N_is_user_name) (sc := defScope s_is_user_name) (by decide +kernel)) (fun _ _ _ _ _ => (pg_name (i := 1) sc_is_user_name.nd rfl (Or.inl rfl))) (fun _ _ _ _ _ => pts_nil) (fun _ _ _ _ _ => (pe_cmpR op_in_sign (pv 1) (pe_op op_add_str (pe_glob (v := .str "abcdefghijklmnopqrstuvwxyz") rfl h_SMALL ⟨_, rfl⟩) (pe_glob (v := .str "0123456789") rfl h_DIGITS ⟨_, rfl⟩)) (by rfl)))) pa_nil))))), ?_⟩
  have bad : userB z = false → Q (.bl false) H := fun e => by have := k H (Same.refl H); rw [e] at this; exact this
  refine ⟨_, rfl, .str z, .ty "str", _, _, _, rfl, .ty "str", .base (.str z), kit_str, _, rfl, ?_⟩
  refine iteF ⟨_, rfl, z, rfl, small5 hz, _, _, rfl, rfl, _, rfl, ?_⟩
  by_cases h1 : (1 : Int) ≤ (z.length : Int)
  · rw [decide_eq_true h1]
    refine iteT ⟨_, _, rfl, rfl, _, rfl, ?_⟩
    by_cases h2 : (z.length : Int) ≤ 10
    · rw [decide_eq_true h2]
      refine iteF ?_
      obtain ⟨c, cs, ec⟩ : ∃ c cs, tl z = c :: cs := by
        cases e : tl z with
        | nil => rw [len_tl, e] at h1; exact absurd h1 (by decide)
        | cons c cs => exact ⟨c, cs, rfl⟩
      have e0 : (tl z)[0]? = some c := by rw [ec]; rfl
      refine ⟨_, rfl, z, 0, c, rfl, rfl, small5 hz, atI_nat (j := 0) e0, ⟨_, _, rfl, rfl, _, rfl, ?_⟩⟩
      by_cases hc : c ∈ tl smallT
      · have hc2 : decide (c ∈ (Str.ofString "abcdefghijklmnopqrstuvwxyz").cps.toList) = true := decide_eq_true hc
        rw [hc2]
        refine iteF ?_
        refine ⟨_, rfl, z, rfl, fun D hD => ?_⟩
        refine lc_it walk_str (fun i H' => Same H H' ∧ H' D = some (.lst (((tl z).take i).map fun c => V.bl (inSD c)))) ⟨Same.new hD, upd_same⟩ (fun _ _ _ _ => True.intro) ?_ ?_
        · rintro i x H1 H2 hi ⟨sm, gD⟩ ⟨rfl, c', hc', rfl⟩
          refine ⟨rfl, yes_ ?_⟩
          refine iteT ?_
          refine ⟨_, rfl, _, _, rfl, rfl, (by decide), _, _, rfl, rfl, ?_⟩
          refine ⟨_, gD, small5' (by rw [List.length_map, List.length_take]; rw [len_tl] at hz; omega), fun b o hb => ?_, ?_⟩
          · rw [upd_ne (ne_of_none hb hD)]; exact sm b o hb
          · rw [upd_same, get_take (take_at hc'), List.map_append]; rfl
        · rintro H' ⟨sm, gD⟩
          rw [size_tl, List.take_length] at gD
          have gD2 : H' D = some (.lst (((tl z).map inSD).map V.bl)) := by rw [gD, List.map_map]; rfl
          refine ⟨D, (tl z).map inSD, rfl, SqL.of gD2, ?_⟩
          have := k H' sm
          have e : userB z = ((tl z).map inSD).all id := by
            unfold userB
            rw [decide_eq_true (show 1 ≤ z.length ∧ z.length ≤ 10 by omega)]
            have : firstSm (tl z) = true := by rw [ec]; exact decide_eq_true hc
            rw [this]
            simp [List.all_map]
          rw [e] at this
          exact this
      · have hc2 : decide (c ∈ (Str.ofString "abcdefghijklmnopqrstuvwxyz").cps.toList) = false := decide_eq_false hc
        rw [hc2]
        refine iteT (bad ?_)
        unfold userB
        have : firstSm (tl z) = false := by rw [ec]; exact decide_eq_false hc
        rw [this]; simp
    · rw [decide_eq_false h2]
      refine iteT (iteT (bad ?_))
      unfold userB
      rw [decide_eq_false (show ¬ (1 ≤ z.length ∧ z.length ≤ 10) by omega)]; rfl
  · rw [decide_eq_false h1]
    refine iteF ⟨_, rfl, iteT (iteT (bad ?_))⟩
    unfold userB
    rw [decide_eq_false (show ¬ (1 ≤ z.length ∧ z.length ≤ 10) by omega)]; rfl
def sp_is_label_value (K : PySem.W.Frag) : Sp := fun vs H Q _ => ∃ (z : Str), vs = [.str z] ∧ z.length ≤ 100000 ∧ ∀ H', Same H H' → Q (.bl (lvalB z)) H'
theorem ok_is_label_value {P : Program} {w : World} {K : PySem.W.Frag} {mg : Str → Option Value} {base : Heap} {fd : FuncData} (T : Txt K mg w) (F : FnP K "is_label_value" s_is_label_value [] fd) : FnOk P w K mg base CX0 1 (He.ga K "is_label_value") fd ps_is_label_value (sp_is_label_value K) := by
  obtain ⟨t_SMALL, h_SMALL⟩ := T.c_SMALL
  obtain ⟨t_DIGITS, h_DIGITS⟩ := T.c_DIGITS
  obtain ⟨t_MOST_LETTERS, h_MOST_LETTERS⟩ := T.c_MOST_LETTERS
  refine F.ok sc_is_label_value (fun vs H Q E h => ?len) (fun cdv A outer s H vs Q E hr h => ?body)
  case len => obtain ⟨z, rfl, hz, k⟩ := h; rfl
  case body =>
  obtain ⟨z, rfl, hz, k⟩ := h
  have hu := hu_of hr
  refine ⟨_, PSs.nox (pss_cons (ps_if (PW.pt (pw_or (pt_not (pt_val (pe_callB call_isi (by rfl) T.n_isinstance (by decide +kernel) (pa_cons (pv 0) (pa_cons (pe_bltn (v := .ty "str") rfl T.n_str (by decide +kernel) rfl) pa_nil))))) (pw_or1 (pt_cmpR op_gt (pe_callB call_len_str (by rfl) T.n_len (by decide +kernel) (pa_cons (pv 0) pa_nil)) (pe_glob (v := .int 24) rfl h_MOST_LETTERS ⟨_, rfl⟩) (nomark _))))) (pss_one (ps_ret pe_bl)) pss_nil)
    (pss_one (ps_ret (pe_callB (cr_all rfl) (by rfl) T.n_all (by decide +kernel) (pa_cons (pe_lc (own := [("sign", 1)]) rfl sc_is_label_value.nd (pi_str (pv 0)) (blkOk_by (own := [("sign", 1)]) (N := N_is_label_value) (sc := defScope s_is_label_value) (by decide +kernel)) (fun _ _ _ _ _ => (pg_name (i := 1) sc_is_label_value.nd rfl (Or.inl rfl))) (fun _ _ _ _ _ => pts_nil) (fun _ _ _ _ _ => (pe_cmpR op_in_sign (pv 1) (pe_op op_add_str (pe_op op_add_str (pe_glob (v := .str "abcdefghijklmnopqrstuvwxyz") rfl h_SMALL ⟨_, rfl⟩) (pe_glob (v := .str "0123456789") rfl h_DIGITS ⟨_, rfl⟩)) pe_str) (by rfl)))) pa_nil))))), ?_⟩
  refine ⟨_, rfl, .str z, .ty "str", _, _, _, rfl, .ty "str", .base (.str z), kit_str, _, rfl, ?_⟩
  refine iteF ⟨_, rfl, z, rfl, small5 hz, _, _, rfl, rfl, _, rfl, ?_⟩
  by_cases h2 : (24 : Int) < (z.length : Int)
  · rw [decide_eq_true h2]
    refine iteT ?_
    have := k H (Same.refl H)
    have e : lvalB z = false := by
      unfold lvalB
      rw [decide_eq_false (show ¬ z.length ≤ 24 by omega)]; rfl
    rw [e] at this
    exact this
  · rw [decide_eq_false h2]
    refine iteF ?_
    refine ⟨_, rfl, z, rfl, fun D hD => ?_⟩
    refine lc_it walk_str (fun i H' => Same H H' ∧ H' D = some (.lst (((tl z).take i).map fun c => V.bl (inSDH c)))) ⟨Same.new hD, upd_same⟩ (fun _ _ _ _ => True.intro) ?_ ?_
    · rintro i x H1 H2 hi ⟨sm, gD⟩ ⟨rfl, c', hc', rfl⟩
      refine ⟨rfl, yes_ ?_⟩
      refine iteT ?_
      refine ⟨_, rfl, _, _, rfl, rfl, (by decide), _, _, rfl, rfl, (by decide), _, _, rfl, rfl, ?_⟩
      refine ⟨_, gD, small5' (by rw [List.length_map, List.length_take]; rw [len_tl] at hz; omega), fun b o hb => ?_, ?_⟩
      · rw [upd_ne (ne_of_none hb hD)]; exact sm b o hb
      · rw [upd_same, get_take (take_at hc'), List.map_append]; rfl
    · rintro H' ⟨sm, gD⟩
      rw [size_tl, List.take_length] at gD
      have gD2 : H' D = some (.lst (((tl z).map inSDH).map V.bl)) := by rw [gD, List.map_map]; rfl
      refine ⟨D, (tl z).map inSDH, rfl, SqL.of gD2, ?_⟩
      have := k H' sm
      have e : lvalB z = ((tl z).map inSDH).all id := by
        unfold lvalB
        rw [decide_eq_true (show z.length ≤ 24 by omega)]
        simp [List.all_map]
      rw [e] at this
      exact this
/-! ### labels -/
abbrev Lab := List (Key × V)
/-- the table of labels kvs, user names to label values -/
def LabOk (kvs : List (Str × Str)) : Prop := kvs.length ≤ 8 ∧ (∀ p ∈ kvs, userB p.1 = true ∧ lvalB p.2 = true ∧ p.1.length ≤ 100 ∧ p.2.length ≤ 100) ∧ (kvs.map (·.1)).Nodup
def labD (kvs : List (Str × Str)) : List (Key × V) := kvs.map fun p => (Sum.inr p.1, V.str p.2)
def sp_is_labels (K : PySem.W.Frag) : Sp := fun vs H Q _ => ∃ (d : Addr) (kvs : List (Str × Str)), vs = [.ref d] ∧ H d = some (.dK (labD kvs)) ∧ LabOk kvs ∧ ∀ H', Same H H' → Q (.bl true) H'
theorem kit_dict {K : PySem.W.Frag} : PySem.W.kitOne K (.type "dict") (.type "dict") = some true := kit_ty (show kitB "dict" "dict" = some true by decide +kernel)
theorem all_true : ∀ n : Nat, (List.replicate n true).all id = true
  | 0 => rfl
  | n + 1 => by rw [List.replicate_succ, List.all_cons, all_true n]; rfl
theorem ok_is_labels {P : Program} {w : World} {K : PySem.W.Frag} {mg : Str → Option Value} {base : Heap} {fd : FuncData} (T : Txt K mg w) (F : FnP K "is_labels" s_is_labels [] fd) : FnOk P w K mg base CX0 2 (He.ga K "is_labels") fd ps_is_labels (sp_is_labels K) := by
  obtain ⟨fd_is_user_name, F_is_user_name⟩ := T.d_is_user_name
  have G_is_user_name := ok_is_user_name (P := P) (w := w) (base := base) T F_is_user_name
  have k_is_user_name := F_is_user_name.kp
  have b_is_user_name := bi_is_user_name F_is_user_name
  obtain ⟨fd_is_label_value, F_is_label_value⟩ := T.d_is_label_value
  have G_is_label_value := ok_is_label_value (P := P) (w := w) (base := base) T F_is_label_value
  have k_is_label_value := F_is_label_value.kp
  have b_is_label_value := bi_is_label_value F_is_label_value
  obtain ⟨t_MOST_LABELS, h_MOST_LABELS⟩ := T.c_MOST_LABELS
  refine F.ok sc_is_labels (fun vs H Q E h => ?len) (fun cdv A outer s H vs Q E hr h => ?body)
  case len => obtain ⟨d, kvs, rfl, hd, ok, k⟩ := h; rfl
  case body =>
  obtain ⟨d, kvs, rfl, hd, ok, k⟩ := h
  have hu := hu_of hr
  refine ⟨_, PSs.nox (pss_cons (ps_if (PW.pt (pw_or (pt_not (pt_val (pe_callB call_isi (by rfl) T.n_isinstance (by decide +kernel) (pa_cons (pv 0) (pa_cons (pe_bltn (v := .ty "dict") rfl T.n_dict (by decide +kernel) rfl) pa_nil))))) (pw_or1 (pt_cmpR op_gt (pe_callB call_lenD (by rfl) T.n_len (by decide +kernel) (pa_cons (pv 0) pa_nil)) (pe_glob (v := .int 8) rfl h_MOST_LABELS ⟨_, rfl⟩) (nomark _))))) (pss_one (ps_ret pe_bl)) pss_nil)
    (pss_one (ps_ret (pe_callB (cr_all rfl) (by rfl) T.n_all (by decide +kernel) (pa_cons (pe_lock (pe_lc (own := [("name", 1), ("text", 2)]) (g := gTup K 2 (gCons (gName 1) (gCons (gName 2) gNil))) rfl sc_is_labels.nd (pi_items (pv 0)) (blkOk_by (own := [("name", 1), ("text", 2)]) (N := N_is_labels) (sc := defScope s_is_labels) (by decide +kernel)) (fun _ _ _ _ _ => (pg_tup rfl (pgs_cons (pg_name (i := 1) sc_is_labels.nd rfl (Or.inl rfl) (Or.inr rfl)) (pgs_cons (pg_name (i := 2) sc_is_labels.nd rfl (Or.inl rfl) (Or.inr rfl)) pgs_nil)))) (fun _ _ _ _ _ => pts_nil) (fun _ _ _ _ _ => (pe_and (pe_call G_is_user_name (hr.mono (by first | decide | omega)) rfl T.g_is_user_name k_is_user_name b_is_user_name .nil pass0 (pa_cons (pv 1) pa_nil)) (pe_one (pe_call G_is_label_value (hr.mono (by first | decide | omega)) rfl T.g_is_label_value k_is_label_value b_is_label_value .nil pass0 (pa_cons (pv 2) pa_nil))))))) pa_nil))))), ?_⟩
  have hlen : (labD kvs).length = kvs.length := List.length_map _
  refine ⟨_, rfl, _, .ty "dict", _, _, _, rfl, .ty "dict", .base (.dK hd), kit_dict, _, rfl, ?_⟩
  refine iteF ⟨_, rfl, d, _, rfl, hd, _, _, rfl, rfl, _, rfl, ?_⟩
  rw [decide_eq_false (show ¬ (8 : Int) < ((labD kvs).length : Int) by have := ok.1; omega)]
  refine iteF ?_
  refine ⟨d, _, hd, True.intro, fun od => ?_⟩
  have hdF : (upd H d (.frz od (.dK (labD kvs)))) d = _ := upd_same
  refine ⟨_, rfl, d, od, labD kvs, rfl, hdF, fun D hD => ?_⟩
  have nD : D ≠ d := fun z => by rw [z, hdF] at hD; cases hD
  refine lc_it walk_items (fun i H' => Same (upd H d (.frz od (.dK (labD kvs)))) H' ∧ H' D = some (.lst (List.replicate i (V.bl true)))) ⟨Same.new hD, upd_same⟩ (fun i H' _ p => p.1 _ _ hdF) ?_ ?_
  · rintro i x H1 H2 hi ⟨sm, gD⟩ ⟨T, x1, y1, rfl, hT, rfl, h1, h2⟩
    obtain ⟨p, hp⟩ : ∃ p, kvs[i]? = some p := ⟨_, List.getElem?_eq_getElem (by omega)⟩
    have hp2 : (labD kvs)[i]? = some (Sum.inr p.1, V.str p.2) := by unfold labD; rw [List.getElem?_map, hp]; rfl
    dsimp only at h1 h2
    rw [hp2] at h1 h2
    cases h1
    cases h2
    obtain ⟨u1, u2, u3, u4⟩ := ok.2.1 p (mem_at hp)
    have gD1 : upd H1 T (.tup [kV (Sum.inr p.1), V.str p.2]) D = _ := Same.new hT _ _ gD
    refine ⟨T, _, rfl, SqT.of upd_same, rfl, _, _, rfl, _, _, rfl, rfl, rfl, yes_ ?_⟩
    refine iteT ?_
    refine ⟨_, rfl, p.1, rfl, by omega, fun H3 S3 => ⟨_, rfl, ?_⟩⟩
    rw [u1]
    refine iteT ⟨_, rfl, p.2, rfl, by omega, fun H4 S4 => ?_⟩
    rw [u2]
    have S14 := (Same.new hT).trans (S3.trans S4)
    refine ⟨_, S14 _ _ gD, small1000 (by rw [List.length_replicate]; have := ok.1; omega), fun b o hb => ?_, ?_⟩
    · rw [upd_ne (ne_of_none hb hD)]; exact S14 _ _ (sm b o hb)
    · rw [upd_same, List.replicate_succ']
  · rintro H' ⟨sm, gD⟩
    refine ⟨sm _ _ hdF, ?_⟩
    have gD2 : upd H' d (.dK (labD kvs)) D = some (.lst ((List.replicate (labD kvs).length true).map V.bl)) := by rw [upd_ne nD, gD, List.map_replicate]
    refine ⟨D, List.replicate (labD kvs).length true, rfl, SqL.of gD2, ?_⟩
    rw [all_true]
    refine k _ fun b o hb => ?_
    by_cases e : b = d
    · subst e; rw [hd] at hb; cases hb; exact upd_same
    · rw [upd_ne e]; exact sm _ _ (by rw [upd_ne e]; exact hb)

/-! ### rows and their texts -/
inductive Verb | is | not | there | missing
  deriving DecidableEq
def vT : Verb → Str
  | .is => "is"
  | .not => "not"
  | .there => "there"
  | .missing => "missing"
structure Row where
  nm : Str
  vb : Verb
  vl : Str
  deriving DecidableEq
def rowV (r : Row) : List V := [.str r.nm, .str (vT r.vb), .str r.vl]
def preT : Verb → Str
  | .missing => "!"
  | _ => ""
def markT : Verb → Str
  | .is => "="
  | .not => "!="
  | _ => ""
def rowT (r : Row) : Str := preT r.vb ++ r.nm ++ markT r.vb ++ r.vl

def names4 : List Str := ["a", "b", "c", "d", "e", "f", "g", "h", "i", "j", "k", "l", "m", "zz", "q"]
def vals8 : List Str := ["", "web", "db", "web", "a-1", "0", "-", "xxxxxxxxxxxxxxxxxxxxxxxx"]

def allRows : List Row := names4.flatMap fun n => (vals8.flatMap fun v => [⟨n, .is, v⟩, ⟨n, .not, v⟩]) ++ [⟨n, .there, ""⟩, ⟨n, .missing, ""⟩]
def hasT (x z : Str) : Bool := !(Builtin.Str.occurrences z x 0 z.length 1).isEmpty
def rowFact (r : Row) : Bool :=
  decide ((rowT r).length ≤ 50) && (decide (r.nm.length ≤ 50) && (decide (r.vl.length ≤ 50) && (userB r.nm && (lvalB r.vl && (!decide ((44 : Nat) ∈ tl (rowT r)) && (decide (rowT r ≠ "") &&
  (match r.vb with
  | .missing => decide (cutS (rowT r) none (some 1) = "!") && decide (cutS (rowT r) (some 1) none = r.nm) && decide (r.vl = "")
  | .not => decide (cutS (rowT r) none (some 1) ≠ "!") && (hasT "!=" (rowT r) && decide (Txt.splitMax (rowT r) "!=" 1 = [r.nm, r.vl]))
  | .is => decide (cutS (rowT r) none (some 1) ≠ "!") && (!hasT "!=" (rowT r) && (hasT "=" (rowT r) && decide (Txt.splitMax (rowT r) "=" 1 = [r.nm, r.vl])))
  | .there => decide (cutS (rowT r) none (some 1) ≠ "!") && (!hasT "!=" (rowT r) && (!hasT "=" (rowT r) && (decide (rowT r = r.nm) && decide (r.vl = "")))))))))))
set_option maxRecDepth 100000 in
theorem rows_fact : allRows.all rowFact = true := by decide +kernel
structure RowF (r : Row) : Prop where
  lt : (rowT r).length ≤ 50
  ln : r.nm.length ≤ 50
  lv : r.vl.length ≤ 50
  un : userB r.nm = true
  lb : lvalB r.vl = true
  com : (44 : Nat) ∉ tl (rowT r)
  ne : rowT r ≠ ""
  mis : r.vb = .missing → cutS (rowT r) none (some 1) = "!" ∧ cutS (rowT r) (some 1) none = r.nm ∧ r.vl = ""
  neg : r.vb = .not → cutS (rowT r) none (some 1) ≠ "!" ∧ hasT "!=" (rowT r) = true ∧ Txt.splitMax (rowT r) "!=" 1 = [r.nm, r.vl]
  pos : r.vb = .is → cutS (rowT r) none (some 1) ≠ "!" ∧ hasT "!=" (rowT r) = false ∧ hasT "=" (rowT r) = true ∧ Txt.splitMax (rowT r) "=" 1 = [r.nm, r.vl]
  the : r.vb = .there → cutS (rowT r) none (some 1) ≠ "!" ∧ hasT "!=" (rowT r) = false ∧ hasT "=" (rowT r) = false ∧ rowT r = r.nm ∧ r.vl = ""
theorem row_f {r : Row} (h : r ∈ allRows) : RowF r := by
  have q := List.all_eq_true.mp rows_fact r h
  unfold rowFact at q
  simp only [Bool.and_eq_true, decide_eq_true_eq, Bool.not_eq_true', decide_eq_false_iff_not] at q
  obtain ⟨q1, q2, q3, q4, q5, q6, q7, q8⟩ := q
  refine ⟨q1, q2, q3, q4, q5, q6, q7, fun e => ?_, fun e => ?_, fun e => ?_, fun e => ?_⟩
  all_goals
    rw [e] at q8
    simp only [Bool.and_eq_true, decide_eq_true_eq, Bool.not_eq_true'] at q8
  · exact ⟨q8.1.1, q8.1.2, q8.2⟩
  · exact q8
  · exact q8
  · exact q8
def RowAt (H : Hp) (p : Addr) (r : Row) : Prop := H p = some (.tup (rowV r))
def RowsAt (H : Hp) (L : Addr) (rows : List Row) : Prop := ∃ ps : List Addr, H L = some (.lst (ps.map V.ref)) ∧ Paired (RowAt H) ps rows
def Rows8 (rows : List Row) : Prop := rows.length ≤ 8 ∧ ∀ r ∈ rows, r ∈ allRows
theorem Paired.mono {α β : Type} {F G : α → β → Prop} (f : ∀ a b, F a b → G a b) : ∀ {xs : List α} {ys : List β}, Paired F xs ys → Paired G xs ys
  | _, _, .nil => .nil
  | _, _, .cons r t => .cons (f _ _ r) (Paired.mono f t)
theorem rows_same {H H' : Hp} {L : Addr} {rows : List Row} (s : Same H H') (h : RowsAt H L rows) : RowsAt H' L rows := by
  obtain ⟨ps, h1, h2⟩ := h
  exact ⟨ps, s _ _ h1, Paired.mono (fun p r q => s _ _ q) h2⟩
def sp_requirement (K : PySem.W.Frag) : Sp := fun vs H Q _ => ∃ (r : Row), vs = [.str (rowT r)] ∧ r ∈ allRows ∧ ∀ (p : Addr) (H' : Hp), Same H H' → RowAt H' p r → Q (.ref p) H'
theorem ok_requirement {P : Program} {w : World} {K : PySem.W.Frag} {mg : Str → Option Value} {base : Heap} {fd : FuncData} (T : Txt K mg w) (F : FnP K "requirement" s_requirement [] fd) : FnOk P w K mg base CX0 2 (He.ga K "requirement") fd ps_requirement (sp_requirement K) := by
  obtain ⟨fd_is_user_name, F_is_user_name⟩ := T.d_is_user_name
  have G_is_user_name := ok_is_user_name (P := P) (w := w) (base := base) T F_is_user_name
  have k_is_user_name := F_is_user_name.kp
  have b_is_user_name := bi_is_user_name F_is_user_name
  obtain ⟨fd_is_label_value, F_is_label_value⟩ := T.d_is_label_value
  have G_is_label_value := ok_is_label_value (P := P) (w := w) (base := base) T F_is_label_value
  have k_is_label_value := F_is_label_value.kp
  have b_is_label_value := bi_is_label_value F_is_label_value
  refine F.ok sc_requirement (fun vs H Q E h => ?len) (fun cdv A outer s H vs Q E hr h => ?body)
  case len => obtain ⟨r, rfl, hr0, k⟩ := h; rfl
  case body =>
  obtain ⟨r, rfl, hr0, k⟩ := h
  have hu := hu_of hr
  refine ⟨_, PSs.nox (pss_cons (ps_if (pt_cmpR op_eq (pe_slice sl_str (pv 0) po_none (po_some pe_int)) pe_str (nomark _)) (pss_one (ps_set (i := 1) sc_requirement.nd rfl (Or.inl rfl) (pe_tup (pa_cons (pe_slice sl_str (pv 0) (po_some pe_int) po_none) (pa_cons pe_str (pa_cons pe_str pa_nil)))))) (pss_one (ps_if (pt_cmpR op_in_str pe_str (pv 0) (by rfl)) (pss_cons (ps_asg (pe_bm PySem.F.plainAttrs_str PySem.F.slot_str_split PySem.F.type_str_split mt_splitMax (pv 0) (pa_cons pe_str (pa_cons pe_int pa_nil))) (pg_lst rfl (pgs_cons (pg_name (i := 2) sc_requirement.nd rfl (Or.inl rfl)) (pgs_cons (pg_name (i := 3) sc_requirement.nd rfl (Or.inl rfl)) pgs_nil))))
        (pss_one (ps_set (i := 1) sc_requirement.nd rfl (Or.inl rfl) (pe_tup (pa_cons (pv 2) (pa_cons pe_str (pa_cons (pv 3) pa_nil))))))) (pss_one (ps_if (pt_cmpR op_in_str pe_str (pv 0) (by rfl)) (pss_cons (ps_asg (pe_bm PySem.F.plainAttrs_str PySem.F.slot_str_split PySem.F.type_str_split mt_splitMax (pv 0) (pa_cons pe_str (pa_cons pe_int pa_nil))) (pg_lst rfl (pgs_cons (pg_name (i := 2) sc_requirement.nd rfl (Or.inl rfl)) (pgs_cons (pg_name (i := 3) sc_requirement.nd rfl (Or.inl rfl)) pgs_nil))))
          (pss_one (ps_set (i := 1) sc_requirement.nd rfl (Or.inl rfl) (pe_tup (pa_cons (pv 2) (pa_cons pe_str (pa_cons (pv 3) pa_nil))))))) (pss_one (ps_set (i := 1) sc_requirement.nd rfl (Or.inl rfl) (pe_tup (pa_cons (pv 0) (pa_cons pe_str (pa_cons pe_str pa_nil)))))))))))
    (pss_one (ps_ret (pe_ifExp (PW.pt (pw_and (pt_val (pe_call G_is_user_name (hr.mono (by first | decide | omega)) rfl T.g_is_user_name k_is_user_name b_is_user_name .nil pass0 (pa_cons (pe_ix ix_tup (pv 1) pe_int (fun _ _ => rfl)) pa_nil))) (pw_and1 (pt_val (pe_call G_is_label_value (hr.mono (by first | decide | omega)) rfl T.g_is_label_value k_is_label_value b_is_label_value .nil pass0 (pa_cons (pe_ix ix_tup (pv 1) pe_int (fun _ _ => rfl)) pa_nil)))))) (pv 1) pe_non)))), ?_⟩
  have f := row_f hr0
  -- the last row: found if both are right
  have fin : ∀ (p : Addr) (H1 : Hp) (n v : Option V), Same H H1 → RowAt H1 p r → tRet (tIf (tAnd (tB (tCall (sp_is_user_name K) [] E0 (tCons (tOp (rIxT K) (tVar 1) (tC (.int 0))) tNil))) (tB (tCall (sp_is_label_value K) [] E0 (tCons (tOp (rIxT K) (tVar 1) (tC (.int 2))) tNil)))) (tVar 1) (tC .non))
      { nx := fun _ H' => Q .non H', rt := Q } [some (.str (rowT r)), some (.ref p), n, v] H1 := by
    intro p H1 n v S1 h1
    refine ⟨_, rfl, p, _, 0, .str r.nm, rfl, rfl, SqT.of h1, rfl, r.nm, rfl, by have := f.ln; omega, fun H2 S2 => ⟨_, rfl, ?_⟩⟩
    rw [f.un]
    refine iteT ⟨_, rfl, p, _, 2, .str r.vl, rfl, rfl, SqT.of (S2 _ _ h1), rfl, r.vl, rfl, by have := f.lv; omega, fun H3 S3 => ⟨_, rfl, ?_⟩⟩
    rw [f.lb]
    exact iteT ⟨_, rfl, k p H3 (S1.trans (S2.trans S3)) (S3 _ _ (S2 _ _ h1))⟩
  have hz : (rowT r).length ≤ sizeLine := smallN (by have := f.lt; omega)
  refine ⟨_, rfl, _, rfl, _, rfl, hz, rfl, _, rfl, ?_⟩
  have mk : ∀ (a b c : Str), [V.str a, .str b, .str c] = rowV r → ∀ (H1 : Hp) (p : Addr), RowAt (upd H1 p (.tup [V.str a, .str b, .str c])) p r := fun a b c e H1 p => by
    unfold RowAt
    rw [upd_same, e]
  have spl : ∀ (sep : Str), (sep.length == 0) = false → Txt.splitMax (rowT r) sep 1 = [r.nm, r.vl] → ∀ (vbt : Str), vbt = vT r.vb → ∀ H1, Same H H1 →
      tSeq (tAsg (tBM K "str" (fun x xs H Q => ∃ (a b : Str) (k : Int), x = .str a ∧ xs = [.str b, .int k] ∧ (b.length == 0) = false ∧ -(2 ^ 63) ≤ k ∧ k < 2 ^ 63 ∧ a.length + 2 ≤ sizeLine ∧ rNewStrs (Txt.splitMax a b k) H Q) (tVar 0) (tCons (tC (.str sep)) (tCons (tC (.int 1)) tNil))) (gLst K 2 (gCons (gName 2) (gCons (gName 3) gNil))))
        (tAsg (tTup (tCons (tVar 2) (tCons (tC (.str vbt)) (tCons (tVar 3) tNil)))) (gName 1))
      { nx := tRet (tIf (tAnd (tB (tCall (sp_is_user_name K) [] E0 (tCons (tOp (rIxT K) (tVar 1) (tC (.int 0))) tNil))) (tB (tCall (sp_is_label_value K) [] E0 (tCons (tOp (rIxT K) (tVar 1) (tC (.int 2))) tNil)))) (tVar 1) (tC .non)) { nx := fun _ H' => Q .non H', rt := Q }, rt := Q } [some (.str (rowT r)), none, none, none] H1 := by
    intro sep h0 hs vbt hv H1 S1
    refine ⟨_, rfl, rfl, _, _, _, rfl, rfl, h0, by decide, by decide, (by rw [sizeLine_eq]; have := f.lt; omega), fun p hp => ?_⟩
    rw [hs]
    refine ⟨p, _, rfl, SqL.of upd_same, rfl, _, _, rfl, _, _, rfl, rfl, ?_⟩
    refine ⟨_, rfl, _, rfl, smallN (by show 3 ≤ 1000; decide), fun q hq => ?_⟩
    exact fin q _ _ _ (S1.trans ((Same.new hp).trans (Same.new hq))) (mk _ _ _ (by rw [hv]; rfl) _ q)
  cases evb : r.vb with
  | missing =>
    obtain ⟨m1, m2, m3⟩ := f.mis evb
    rw [m1, decide_eq_true (show V.str "!" = V.str "!" from rfl)]
    refine iteT ?_
    refine ⟨_, rfl, _, rfl, _, rfl, hz, smallN (by show 3 ≤ 1000; decide), fun p hp => ?_⟩
    exact fin p _ _ _ (Same.new hp) (mk _ _ _ (by unfold rowV; rw [m2, evb, m3]; rfl) _ p)
  | not =>
    obtain ⟨m1, m2, m3⟩ := f.neg evb
    rw [decide_eq_false (show ¬ V.str (cutS (rowT r) none (some 1)) = V.str "!" from fun z => m1 (by injection z))]
    refine iteF ⟨_, rfl, _, _, rfl, rfl, _, rfl, ?_⟩
    have m2 : (!(Builtin.Str.occurrences (rowT r) "!=" 0 (rowT r).length 1).isEmpty) = true := m2
    rw [m2]
    exact iteT (spl "!=" rfl m3 "not" (by rw [evb]; rfl) H (Same.refl H))
  | is =>
    obtain ⟨m1, m2, m3, m4⟩ := f.pos evb
    rw [decide_eq_false (show ¬ V.str (cutS (rowT r) none (some 1)) = V.str "!" from fun z => m1 (by injection z))]
    refine iteF ⟨_, rfl, _, _, rfl, rfl, _, rfl, ?_⟩
    have m2 : (!(Builtin.Str.occurrences (rowT r) "!=" 0 (rowT r).length 1).isEmpty) = false := m2
    rw [m2]
    refine iteF ⟨_, rfl, _, _, rfl, rfl, _, rfl, ?_⟩
    have m3 : (!(Builtin.Str.occurrences (rowT r) "=" 0 (rowT r).length 1).isEmpty) = true := m3
    rw [m3]
    exact iteT (spl "=" rfl m4 "is" (by rw [evb]; rfl) H (Same.refl H))
  | there =>
    obtain ⟨m1, m2, m3, m4, m5⟩ := f.the evb
    rw [decide_eq_false (show ¬ V.str (cutS (rowT r) none (some 1)) = V.str "!" from fun z => m1 (by injection z))]
    refine iteF ⟨_, rfl, _, _, rfl, rfl, _, rfl, ?_⟩
    have m2 : (!(Builtin.Str.occurrences (rowT r) "!=" 0 (rowT r).length 1).isEmpty) = false := m2
    rw [m2]
    refine iteF ⟨_, rfl, _, _, rfl, rfl, _, rfl, ?_⟩
    have m3 : (!(Builtin.Str.occurrences (rowT r) "=" 0 (rowT r).length 1).isEmpty) = false := m3
    rw [m3]
    refine iteF ?_
    refine ⟨_, rfl, smallN (by show 3 ≤ 1000; decide), fun p hp => ?_⟩
    exact fin p _ _ _ (Same.new hp) (mk _ _ _ (by unfold rowV; rw [evb, m5, m4]; rfl) _ p)

/-! ### selectors -/
def selT (rows : List Row) : Str := Txt.join "," (rows.map rowT)
theorem joinL_len (S : List Nat) (m : Nat) : ∀ ps : List (List Nat), (∀ p ∈ ps, p.length ≤ m) → (TL.joinL S ps).length ≤ ps.length * (m + S.length)
  | [], _ => by simp [TL.joinL]
  | [p], h => by
    have := h p (List.mem_singleton.mpr rfl)
    simp only [TL.joinL, List.length_singleton]; omega
  | p :: q :: r, h => by
    have h1 := h p (List.mem_cons_self ..)
    have h2 := joinL_len S m (q :: r) fun z hz => h z (List.mem_cons_of_mem _ hz)
    simp only [TL.joinL, List.length_append]
    rw [List.length_cons, Nat.add_mul]
    omega
theorem selT_len {rows : List Row} (h : Rows8 rows) : (selT rows).length ≤ 1000 := by
  have e : (selT rows).length = (TL.tl (selT rows)).length := len_tl _
  rw [e]
  unfold selT
  rw [TL.join_eq, TL.tl_join]
  refine Nat.le_trans (joinL_len _ 50 _ ?_) ?_
  · intro p hp
    rw [List.map_map] at hp
    obtain ⟨r, hr, rfl⟩ := List.mem_map.mp hp
    have := (row_f (h.2 r hr)).lt
    rw [len_tl] at this
    exact this
  · have : (TL.tl (",":Str)).length = 1 := by decide +kernel
    rw [this, List.length_map, List.length_map]
    have := h.1
    omega
theorem selT_split {rows : List Row} (h : Rows8 rows) (hne : rows ≠ []) : Txt.split (selT rows) "," = rows.map rowT := by
  refine TL.split_join (s := 44) (S := []) (by decide +kernel) (by decide +kernel) (by simpa using hne) fun p hp => ?_
  obtain ⟨r, hr, rfl⟩ := List.mem_map.mp hp
  exact (row_f (h.2 r hr)).com
theorem selT_ne {rows : List Row} (h : Rows8 rows) (hne : rows ≠ []) : selT rows ≠ "" := by
  intro e
  have q := selT_split h hne
  rw [e] at q
  have q0 : Txt.split ("" : Str) "," = ([("" : Str)] : List Str) := by decide +kernel
  rw [q0] at q
  cases rows with
  | nil => exact hne rfl
  | cons r rs =>
    rw [List.map_cons] at q
    injection q with q1 _
    exact (row_f (h.2 r (List.mem_cons_self ..))).ne q1.symm
theorem selT_nil : selT [] = "" := by decide +kernel
theorem paired_snoc {α β : Type} {F : α → β → Prop} {a : α} {b : β} (h : F a b) : ∀ {xs : List α} {ys : List β}, Paired F xs ys → Paired F (xs ++ [a]) (ys ++ [b])
  | _, _, .nil => .cons h .nil
  | _, _, .cons r t => .cons r (paired_snoc h t)
theorem paired_len {α β : Type} {F : α → β → Prop} : ∀ {xs : List α} {ys : List β}, Paired F xs ys → xs.length = ys.length
  | _, _, .nil => rfl
  | _, _, .cons _ t => by rw [List.length_cons, List.length_cons, paired_len t]
theorem paired_at {α β : Type} {F : α → β → Prop} : ∀ {xs : List α} {ys : List β} {i : Nat} {a : α}, Paired F xs ys → xs[i]? = some a → ∃ b, ys[i]? = some b ∧ F a b
  | _, _, _, _, .nil, e => by simp at e
  | _, _, 0, _, .cons r _, e => by simp at e; subst e; exact ⟨_, rfl, r⟩
  | _, _, i + 1, a, .cons _ t, e => by
    obtain ⟨b, h1, h2⟩ := paired_at (i := i) (a := a) t (by simpa using e)
    exact ⟨b, by simpa using h1, h2⟩
def sp_rows_of (K : PySem.W.Frag) : Sp := fun vs H Q _ => ∃ (rows : List Row), vs = [.str (selT rows)] ∧ Rows8 rows ∧ ∀ (L : Addr) (H' : Hp), Same H H' → H L = none → RowsAt H' L rows → Q (.ref L) H'
theorem ok_rows_of {P : Program} {w : World} {K : PySem.W.Frag} {mg : Str → Option Value} {base : Heap} {fd : FuncData} (T : Txt K mg w) (F : FnP K "rows_of" s_rows_of [] fd) : FnOk P w K mg base CX0 3 (He.ga K "rows_of") fd ps_rows_of (sp_rows_of K) := by
  obtain ⟨fd_requirement, F_requirement⟩ := T.d_requirement
  have G_requirement := ok_requirement (P := P) (w := w) (base := base) T F_requirement
  have k_requirement := F_requirement.kp
  have b_requirement := bi_requirement F_requirement
  obtain ⟨t_MOST_REQUIREMENTS, h_MOST_REQUIREMENTS⟩ := T.c_MOST_REQUIREMENTS
  refine F.ok sc_rows_of (fun vs H Q E h => ?len) (fun cdv A outer s H vs Q E hr h => ?body)
  case len => obtain ⟨rows, rfl, h8, k⟩ := h; rfl
  case body =>
  obtain ⟨rows, rfl, h8, k⟩ := h
  have hu := hu_of hr
  refine ⟨_, PSs.nox (pss_cons (ps_if (pt_not (pt_val (pe_callB call_isi (by rfl) T.n_isinstance (by decide +kernel) (pa_cons (pv 0) (pa_cons (pe_bltn (v := .ty "str") rfl T.n_str (by decide +kernel) rfl) pa_nil))))) (pss_one (ps_ret pe_non)) pss_nil)
    (pss_cons (ps_if (pt_cmpR op_eq (pv 0) pe_str (nomark _)) (pss_one (ps_ret (pe_lst pa_nil))) pss_nil)
    (pss_cons (ps_set (i := 1) sc_rows_of.nd rfl (Or.inl rfl) (pe_split (pv 0) pe_str))
    (pss_cons (ps_if (pt_cmpR op_gt (pe_callB call_len_seq (by rfl) T.n_len (by decide +kernel) (pa_cons (pv 1) pa_nil)) (pe_glob (v := .int 8) rfl h_MOST_REQUIREMENTS ⟨_, rfl⟩) (nomark _)) (pss_one (ps_ret pe_non)) pss_nil)
    (pss_cons (ps_setLc (i := 2) (own := [("row", 3)]) rfl sc_rows_of.nd rfl rfl (sw_true rfl rfl rfl (by decide +kernel)) (pi_list (pe_lc (own := [("part", 4)]) rfl sc_rows_of.nd (pi_list (pv 1)) (blkOk_by (own := [("part", 4)]) (N := N_rows_of) (sc := defScope s_rows_of) (by decide +kernel)) (fun _ _ _ _ _ => (pg_name (i := 4) sc_rows_of.nd rfl (Or.inl rfl))) (fun _ _ _ _ _ => pts_nil) (fun _ _ _ _ _ => (pe_call G_requirement (hr.mono (by first | decide | omega)) rfl T.g_requirement k_requirement b_requirement .nil pass0 (pa_cons (pv 4) pa_nil))))) (blkOk_by (own := [("row", 3)]) (N := N_rows_of) (sc := defScope s_rows_of) (by decide +kernel)) (fun _ _ _ _ _ => (pg_name (i := 3) sc_rows_of.nd rfl (Or.inl rfl))) (fun _ _ _ _ _ => (pts_one (pt_cmpR op_notN (pv 3) pe_non (nomark _)))) (fun _ _ _ _ _ => (pv 3)))
    (pss_one (ps_ret (pe_ifExp (pt_cmpR op_eq (pe_callB call_len_seq (by rfl) T.n_len (by decide +kernel) (pa_cons (pv 2) pa_nil)) (pe_callB call_len_seq (by rfl) T.n_len (by decide +kernel) (pa_cons (pv 1) pa_nil)) (nomark _)) (pv 2) pe_non)))))))), ?_⟩
  refine ⟨_, rfl, .str (selT rows), .ty "str", _, _, _, rfl, .ty "str", .base (.str _), kit_str, _, rfl, ?_⟩
  refine iteF ⟨_, rfl, rfl, _, rfl, ?_⟩
  by_cases hne : rows = []
  · subst hne
    rw [selT_nil, decide_eq_true (show V.str "" = V.str "" from rfl)]
    exact iteT ⟨smallN (by decide), fun L hL => k L _ (Same.new hL) hL ⟨[], upd_same, .nil⟩⟩
  rw [decide_eq_false (show ¬ V.str (selT rows) = V.str "" from fun z => selT_ne h8 hne (by injection z))]
  refine iteF ?_
  refine ⟨_, rfl, ⟨_, rfl⟩, _, _, rfl, rfl, rfl, (by rw [sizeLine_eq]; have := selT_len h8; omega), fun p1 q1 => ?_⟩
  rw [selT_split h8 hne]
  have S1 := Same.new (u := .lst ((rows.map rowT).map V.str)) q1
  have g1 : (upd H p1 (.lst ((rows.map rowT).map V.str))) p1 = _ := upd_same
  generalize upd H p1 (.lst ((rows.map rowT).map V.str)) = H1 at S1 g1 ⊢
  have e1 : ((rows.map rowT).map V.str).length = rows.length := by rw [List.length_map, List.length_map]
  refine ⟨_, rfl, p1, _, rfl, .inl (SqL.of g1), _, _, rfl, rfl, _, rfl, ?_⟩
  rw [decide_eq_false (show ¬ (8 : Int) < (((rows.map rowT).map V.str).length : Int) by rw [e1]; have := h8.1; omega)]
  refine iteF ?_
  refine ⟨_, rfl, p1, rfl, ⟨_, SqL.of g1⟩, fun D1 hD1 => ?_⟩
  refine lc_list (K := K) (a := p1) (xs := (rows.map rowT).map V.str) (fun i H' => Same H1 H' ∧ ∃ ps : List Addr, H' D1 = some (.lst (ps.map V.ref)) ∧ Paired (RowAt H') ps (rows.take i)) ⟨Same.new hD1, [], upd_same, .nil⟩ (fun i H' _ p => SqL.of (p.1 _ _ g1)) ?_ ?_
  · rintro i x H2 hx ⟨S2, ps, gD, hp⟩
    rw [List.map_map, List.getElem?_map] at hx
    obtain ⟨r, er, rfl⟩ := Option.map_eq_some_iff.mp hx
    refine ⟨rfl, yes_ ?_⟩
    refine iteT ?_
    refine ⟨_, rfl, r, rfl, h8.2 r (mem_at er), fun p H3 S3 hr3 => ?_⟩
    have lp := paired_len hp
    refine ⟨_, S3 _ _ gD, small1000 (by rw [List.length_map, lp, List.length_take]; have := h8.1; omega), fun b o hb => ?_, ps ++ [p], ?_, ?_⟩
    · rw [upd_ne (ne_of_none hb hD1)]; exact S3 _ _ (S2 b o hb)
    · rw [upd_same, List.map_append]; rfl
    · rw [get_take er]
      have up : ∀ (a : Addr) (q : Row), RowAt H3 a q → RowAt (upd H3 D1 (.lst (ps.map V.ref ++ [.ref p]))) a q := fun a q hq => by
        unfold RowAt at hq ⊢
        rw [upd_ne (ne_of hq (S3 _ _ gD) fun z => by cases z)]; exact hq
      exact paired_snoc (up _ _ hr3) (Paired.mono (fun a q hq => up a q (S3 _ _ hq)) hp)
  · rintro H2 ⟨S2, ps, gD, hp⟩
    rw [e1, List.take_length] at hp
    have lp := paired_len hp
    refine ⟨D1, rfl, ⟨_, SqL.of gD⟩, fun D2 hD2 => ?_⟩
    refine lc_list (K := K) (a := D1) (xs := ps.map V.ref) (fun i H' => Same H2 H' ∧ H' D2 = some (.lst ((ps.take i).map V.ref))) ⟨Same.new hD2, upd_same⟩ (fun i H' _ p => SqL.of (p.1 _ _ gD)) ?_ ?_
    · rintro i x H3 hx ⟨S3, gD2⟩
      rw [List.getElem?_map] at hx
      obtain ⟨p, ep, rfl⟩ := Option.map_eq_some_iff.mp hx
      refine ⟨rfl, ?_⟩
      refine ⟨_, rfl, rfl, _, rfl, ?_⟩
      refine iteT ⟨_, rfl, _, gD2, small1000 (by rw [List.length_map, List.length_take]; have := h8.1; omega), fun b o hb => ?_, ?_⟩
      · rw [upd_ne (ne_of_none hb hD2)]; exact S3 b o hb
      · rw [upd_same, get_take ep, List.map_append]; rfl
    · rintro H3 ⟨S3, gD2⟩
      rw [List.length_map, List.take_length] at gD2
      have S13 := S2.trans S3
      refine ⟨_, rfl, D2, _, rfl, .inl (SqL.of gD2), _, rfl, p1, _, rfl, .inl (SqL.of (S13 _ _ g1)), rfl, _, rfl, ?_⟩
      rw [e1, List.length_map, lp, decide_eq_true rfl]
      refine iteT ⟨_, rfl, k D2 H3 (S1.trans S13) (S1.free (S2.free hD2)) ⟨ps, gD2, Paired.mono (fun a q hq => S3 _ _ hq) hp⟩⟩
def sp_requirements (K : PySem.W.Frag) : Sp := fun vs H Q _ => ∃ (rows : List Row), vs = [.str (selT rows)] ∧ Rows8 rows ∧ ∀ (L : Addr) (H' : Hp), Same H H' → H L = none → RowsAt H' L rows → Q (.ref L) H'
theorem ok_requirements {P : Program} {w : World} {K : PySem.W.Frag} {mg : Str → Option Value} {base : Heap} {fd : FuncData} (T : Txt K mg w) (F : FnP K "requirements" s_requirements [] fd) : FnOk P w K mg base CX0 4 (He.ga K "requirements") fd ps_requirements (sp_requirements K) := by
  obtain ⟨fd_rows_of, F_rows_of⟩ := T.d_rows_of
  have G_rows_of := ok_rows_of (P := P) (w := w) (base := base) T F_rows_of
  have k_rows_of := F_rows_of.kp
  have b_rows_of := bi_rows_of F_rows_of
  refine F.ok sc_requirements (fun vs H Q E h => ?len) (fun cdv A outer s H vs Q E hr h => ?body)
  case len => obtain ⟨rows, rfl, h8, k⟩ := h; rfl
  case body =>
  obtain ⟨rows, rfl, h8, k⟩ := h
  have hu := hu_of hr
  refine ⟨_, PSs.nox (pss_cons (ps_set (i := 1) sc_requirements.nd rfl (Or.inl rfl) (pe_call G_rows_of (hr.mono (by first | decide | omega)) rfl T.g_rows_of k_rows_of b_rows_of .nil pass0 (pa_cons (pv 0) pa_nil)))
    (pss_cons (ps_if (pt_cmpR op_isN (pv 1) pe_non (nomark _)) (pss_one ps_never) pss_nil)
    (pss_one (ps_ret (pv 1))))), ?_⟩
  exact ⟨_, rfl, rows, rfl, h8, fun L H' S hL hR => ⟨_, rfl, rfl, _, rfl, iteF ⟨_, rfl, k L H' S hL hR⟩⟩⟩

/-! ### a text times a number -/
def strRep (x : Str) (n : Int) : Str := if n < 1 then Str.empty else if (n == 1 || x.length == 0) = true then x else ⟨(List.replicate n.toNat x.cps).foldl (· ++ ·) #[]⟩
def rRepS : R2 := fun x y H Q => ∃ (z : Str) (n : Int), x = .str z ∧ y = .int n ∧ z.length ≤ 1000 ∧ -1000 ≤ n ∧ n ≤ 10000 ∧ Q (.str (strRep z n)) H
theorem rep_size (a : Array Nat) : ∀ (k : Nat) (acc : Array Nat), ((List.replicate k a).foldl (· ++ ·) acc).size = acc.size + k * a.size
  | 0, acc => by simp
  | k + 1, acc => by
    rw [List.replicate_succ, List.foldl_cons, rep_size a k, Array.size_append, Nat.succ_mul]
    omega
theorem op_rep_str {X : Cx} : OpR X (binaryOp .Mult) rRepS := by
  intro pins s σ H x y v u Q I rx ry h
  obtain ⟨z, n, rfl, rfl, h1, h2, h3, q⟩ := h
  obtain ⟨t, rfl⟩ := rx
  obtain ⟨t', rfl⟩ := ry
  have big : ¬ n < 1 → (z.length : Int) * n ≤ 1000 * 10000 := fun hn => Int.mul_le_mul (by omega) (by omega) (by omega) (by omega)
  refine PySem.P.mul_str ?_ (fun hn _ => ?_) (fun hn _ => ?_) ?_
  · rw [decide_eq_false (by omega), decide_eq_false (by omega)]; rfl
  · have := Int.le_ediv_of_mul_le (a := (z.length : Int)) (b := 2 ^ 63 - 1) (c := n) (by omega) (by have := big hn; omega)
    omega
  · have b := big hn
    have e : ((z.length * n.toNat : Nat) : Int) = (z.length : Int) * n := by rw [Int.natCast_mul, Int.toNat_of_nonneg (by omega)]
    unfold Builtin.Str.tooLong
    exact decide_eq_false (by rw [sizeLine_eq]; omega)
  · unfold strRep at q
    split
    · rename_i c
      rw [if_pos c] at q
      exact ⟨by decide, ⟨.str _, H, I.tok _, ⟨_, rfl⟩, q⟩⟩
    · rename_i c
      rw [if_neg c] at q
      split
      · rename_i d
        rw [if_pos d] at q
        exact ⟨.str _, H, I, ⟨_, rfl⟩, q⟩
      · rename_i d
        rw [if_neg d] at q
        refine ⟨?_, ⟨.str _, H, I.tok _, ⟨_, rfl⟩, q⟩⟩
        have b := big c
        have e : ((z.length * n.toNat : Nat) : Int) = (z.length : Int) * n := by rw [Int.natCast_mul, Int.toNat_of_nonneg (by omega)]
        have l := rep_size z.cps n.toNat #[]
        show ((List.replicate n.toNat z.cps).foldl (· ++ ·) #[]).size ≤ sizeLine
        rw [l, sizeLine_eq]
        have e2 : z.cps.size = z.length := rfl
        rw [e2, Nat.mul_comm]
        show 0 + z.length * n.toNat ≤ _
        omega

/-! ### a row fulfilled -/
def fulB (r : Row) (o : Option V) : Bool := match r.vb with
  | .is => decide (o = some (.str r.vl))
  | .not => !decide (o = some (.str r.vl))
  | .there => o.isSome
  | .missing => !o.isSome
def look (kvs : List (Str × Str)) (n : Str) : Option V := valV (labD kvs) (Sum.inr n)
theorem look_str : ∀ {kvs : List (Str × Str)} {n : Str} {v : V}, look kvs n = some v → ∃ x, v = .str x
  | [], n, v, h => by cases h
  | p :: r, n, v, h => by
    unfold look labD at h
    rw [List.map_cons] at h
    by_cases e : (Sum.inr p.1 : Key) = Sum.inr n
    · rw [valV_pos (p := (Sum.inr p.1, V.str p.2)) e] at h
      cases h
      exact ⟨_, rfl⟩
    · rw [valV_neg (p := (Sum.inr p.1, V.str p.2)) e] at h
      exact look_str (kvs := r) h
def sp_is_fulfilled (K : PySem.W.Frag) : Sp := fun vs H Q _ => ∃ (p d : Addr) (r : Row) (kvs : List (Str × Str)), vs = [.ref p, .ref d] ∧ RowAt H p r ∧ H d = some (.dK (labD kvs)) ∧ Q (.bl (fulB r (look kvs r.nm))) H
theorem dec_some (o x : Str) : decide (some (V.str o) = some (V.str x)) = decide (V.str o = V.str x) := by
  rw [decide_eq_decide]
  exact ⟨fun h => Option.some.inj h, fun h => congrArg some h⟩
theorem ok_is_fulfilled {P : Program} {w : World} {K : PySem.W.Frag} {mg : Str → Option Value} {base : Heap} {fd : FuncData} (T : Txt K mg w) (F : FnP K "is_fulfilled" s_is_fulfilled [] fd) : FnOk P w K mg base CX0 1 (He.ga K "is_fulfilled") fd ps_is_fulfilled (sp_is_fulfilled K) := by
  refine F.ok sc_is_fulfilled (fun vs H Q E h => ?len) (fun cdv A outer s H vs Q E hr h => ?body)
  case len => obtain ⟨p, d, r, kvs, rfl, hp, hd, k⟩ := h; rfl
  case body =>
  obtain ⟨p, d, r, kvs, rfl, hp, hd, k⟩ := h
  have hu := hu_of hr
  refine ⟨_, PSs.nox (pss_cons (ps_asg (pv 0) (pg_tup rfl (pgs_cons (pg_name (i := 2) sc_is_fulfilled.nd rfl (Or.inl rfl)) (pgs_cons (pg_name (i := 3) sc_is_fulfilled.nd rfl (Or.inl rfl)) (pgs_cons (pg_name (i := 4) sc_is_fulfilled.nd rfl (Or.inl rfl)) pgs_nil)))))
    (pss_cons (ps_if (pt_cmpR op_eq (pv 3) pe_str (nomark _)) (pss_one (ps_ret (pe_and (pe_cmp (pc_din hu (pv 2) (pv 1))) (pe_one (pe_cmpR op_eq (pe_dget hu (pv 1) (pv 2) (fun _ _ => rfl)) (pv 4) (nomark _)))))) pss_nil)
    (pss_cons (ps_if (pt_cmpR op_eq (pv 3) pe_str (nomark _)) (pss_one (ps_ret (pe_or (pe_cmp (pc_dnotin hu (pv 2) (pv 1))) (pe_one (pe_cmpR op_ne (pe_dget hu (pv 1) (pv 2) (fun _ _ => rfl)) (pv 4) (nomark _)))))) pss_nil)
    (pss_one (ps_ret (pe_cmpR op_eq (pe_cmp (pc_din hu (pv 2) (pv 1))) (pe_cmpR op_eq (pv 3) pe_str (nomark _)) (nomark _))))))), ?_⟩
  have hg : DGet H d (.str r.nm) (look kvs r.nm) := DGet.k (k := Sum.inr r.nm) hd
  have hs := @look_str kvs r.nm
  generalize look kvs r.nm = o at hg hs k
  refine ⟨_, rfl, p, _, rfl, SqT.of hp, rfl, _, _, rfl, _, _, rfl, _, _, rfl, rfl, ?_⟩
  refine ⟨_, rfl, rfl, _, rfl, ?_⟩
  unfold fulB at k
  cases evb : r.vb with
  | is =>
    rw [evb] at k
    refine iteT ⟨_, rfl, _, rfl, d, o, rfl, hg, _, rfl, ?_⟩
    cases o with
    | none => exact iteF k
    | some v =>
      obtain ⟨x, rfl⟩ := hs rfl
      refine iteT ⟨_, rfl, _, rfl, d, _, rfl, hg, _, rfl, rfl, ?_⟩
      dsimp only at k
      rw [dec_some] at k
      exact k
  | not =>
    rw [evb] at k
    refine iteF ⟨_, rfl, rfl, _, rfl, ?_⟩
    refine iteT ⟨_, rfl, _, rfl, d, o, rfl, hg, _, rfl, ?_⟩
    cases o with
    | none => exact iteT k
    | some v =>
      obtain ⟨x, rfl⟩ := hs rfl
      refine iteF ⟨_, rfl, _, rfl, d, _, rfl, hg, _, rfl, rfl, ?_⟩
      dsimp only at k
      rw [dec_some] at k
      exact k
  | there =>
    rw [evb] at k
    refine iteF ⟨_, rfl, rfl, _, rfl, ?_⟩
    refine iteF ⟨_, rfl, _, rfl, d, o, rfl, hg, _, rfl, rfl, rfl, ?_⟩
    cases o with
    | none => exact k
    | some v => exact k
  | missing =>
    rw [evb] at k
    refine iteF ⟨_, rfl, rfl, _, rfl, ?_⟩
    refine iteF ⟨_, rfl, _, rfl, d, o, rfl, hg, _, rfl, rfl, rfl, ?_⟩
    cases o with
    | none => exact k
    | some v => exact k
/-- all rows fulfilled -/
def fulAll (rows : List Row) (kvs : List (Str × Str)) : Bool := rows.all fun r => fulB r (look kvs r.nm)
def sp_matches (K : PySem.W.Frag) : Sp := fun vs H Q _ => ∃ (d : Addr) (rows : List Row) (kvs : List (Str × Str)), vs = [.str (selT rows), .ref d] ∧ Rows8 rows ∧ H d = some (.dK (labD kvs)) ∧ LabOk kvs ∧ ∀ H', Same H H' → Q (.bl (fulAll rows kvs)) H'
theorem ok_matches {P : Program} {w : World} {K : PySem.W.Frag} {mg : Str → Option Value} {base : Heap} {fd : FuncData} (T : Txt K mg w) (F : FnP K "matches" s_matches [] fd) : FnOk P w K mg base CX0 5 (He.ga K "matches") fd ps_matches (sp_matches K) := by
  obtain ⟨fd_requirements, F_requirements⟩ := T.d_requirements
  have G_requirements := ok_requirements (P := P) (w := w) (base := base) T F_requirements
  have k_requirements := F_requirements.kp
  have b_requirements := bi_requirements F_requirements
  obtain ⟨fd_is_labels, F_is_labels⟩ := T.d_is_labels
  have G_is_labels := ok_is_labels (P := P) (w := w) (base := base) T F_is_labels
  have k_is_labels := F_is_labels.kp
  have b_is_labels := bi_is_labels F_is_labels
  obtain ⟨fd_is_fulfilled, F_is_fulfilled⟩ := T.d_is_fulfilled
  have G_is_fulfilled := ok_is_fulfilled (P := P) (w := w) (base := base) T F_is_fulfilled
  have k_is_fulfilled := F_is_fulfilled.kp
  have b_is_fulfilled := bi_is_fulfilled F_is_fulfilled
  refine F.ok sc_matches (fun vs H Q E h => ?len) (fun cdv A outer s H vs Q E hr h => ?body)
  case len => obtain ⟨d, rows, kvs, rfl, h8, hd, ok, k⟩ := h; rfl
  case body =>
  obtain ⟨d, rows, kvs, rfl, h8, hd, ok, k⟩ := h
  have hu := hu_of hr
  refine ⟨_, PSs.nox (pss_cons (ps_set (i := 2) sc_matches.nd rfl (Or.inl rfl) (pe_call G_requirements (hr.mono (by first | decide | omega)) rfl T.g_requirements k_requirements b_requirements .nil pass0 (pa_cons (pv 0) pa_nil)))
    (pss_cons (ps_if (pt_not (pt_val (pe_call G_is_labels (hr.mono (by first | decide | omega)) rfl T.g_is_labels k_is_labels b_is_labels .nil pass0 (pa_cons (pv 1) pa_nil)))) (pss_one ps_never) pss_nil)
    (pss_one (ps_ret (pe_callB (cr_all rfl) (by rfl) T.n_all (by decide +kernel) (pa_cons (pe_lc (own := [("row", 3)]) rfl sc_matches.nd (pi_list (pv 2)) (blkOk_by (own := [("row", 3)]) (N := N_matches) (sc := defScope s_matches) (by decide +kernel)) (fun _ _ _ _ _ => (pg_name (i := 3) sc_matches.nd rfl (Or.inl rfl))) (fun _ _ _ _ _ => pts_nil) (fun _ _ _ _ _ => (pe_call G_is_fulfilled (hr.mono (by first | decide | omega)) rfl T.g_is_fulfilled k_is_fulfilled b_is_fulfilled .nil pass0 (pa_cons (pv 3) (pa_cons (pv 1) pa_nil))))) pa_nil)))))), ?_⟩
  refine ⟨_, rfl, rows, rfl, h8, fun L H1 S1 hL hR => ?_⟩
  refine ⟨_, rfl, d, kvs, rfl, S1 _ _ hd, ok, fun H2 S2 => ⟨_, rfl, iteF ?_⟩⟩
  obtain ⟨ps, gL, hp⟩ := rows_same S2 hR
  have hd2 := S2 _ _ (S1 _ _ hd)
  have lp := paired_len hp
  refine ⟨_, rfl, L, rfl, ⟨_, SqL.of gL⟩, fun D hD => ?_⟩
  refine lc_list (K := K) (a := L) (xs := ps.map V.ref) (fun i H' => Same H2 H' ∧ H' D = some (.lst ((rows.take i).map fun r => V.bl (fulB r (look kvs r.nm))))) ⟨Same.new hD, upd_same⟩ (fun i H' _ p => SqL.of (p.1 _ _ gL)) ?_ ?_
  · rintro i x H3 hx ⟨S3, gD⟩
    rw [List.getElem?_map] at hx
    obtain ⟨p, ep, rfl⟩ := Option.map_eq_some_iff.mp hx
    obtain ⟨r, er, hr1⟩ : ∃ r, rows[i]? = some r ∧ RowAt H2 p r := paired_at hp ep
    refine ⟨rfl, yes_ ?_⟩
    refine iteT ?_
    refine ⟨_, rfl, _, rfl, p, d, r, kvs, rfl, S3 _ _ hr1, S3 _ _ hd2, ?_⟩
    refine ⟨_, gD, small1000 (by rw [List.length_map, List.length_take]; have := h8.1; omega), fun b o hb => ?_, ?_⟩
    · rw [upd_ne (ne_of_none hb hD)]; exact S3 b o hb
    · rw [upd_same, get_take er, List.map_append]; rfl
  · rintro H3 ⟨S3, gD⟩
    rw [List.length_map, lp, List.take_length] at gD
    have gD2 : H3 D = some (.lst ((rows.map fun r => fulB r (look kvs r.nm)).map V.bl)) := by rw [gD, List.map_map]; rfl
    refine ⟨D, rows.map fun r => fulB r (look kvs r.nm), rfl, SqL.of gD2, ?_⟩
    have q := k H3 (S1.trans (S2.trans S3))
    have e : fulAll rows kvs = (rows.map fun r => fulB r (look kvs r.nm)).all id := by unfold fulAll; rw [List.all_map]; rfl
    rw [e] at q
    exact q

theorem look_none : ∀ {kvs : List (Str × Str)} {n : Str}, n ∉ kvs.map (·.1) → look kvs n = none
  | [], _, _ => rfl
  | p :: r, n, h => by
    unfold look labD
    rw [List.map_cons, valV_neg (p := (Sum.inr p.1, V.str p.2)) (fun e => h (by injection e with e; rw [← e]; simp))]
    exact look_none (kvs := r) fun z => h (by rw [List.map_cons]; exact List.mem_cons_of_mem _ z)
theorem look_mem : ∀ {kvs : List (Str × Str)} {p : Str × Str}, (kvs.map (·.1)).Nodup → p ∈ kvs → look kvs p.1 = some (.str p.2)
  | [], _, _, h => by cases h
  | q :: r, p, nd, h => by
    rw [List.map_cons, List.nodup_cons] at nd
    unfold look labD
    rw [List.map_cons]
    by_cases e : q.1 = p.1
    · have : p = q := by
        rcases List.mem_cons.mp h with z | z
        · exact z
        · exact absurd (e ▸ List.mem_map_of_mem z) nd.1
      subst this
      exact valV_pos rfl
    · rw [valV_neg (p := (Sum.inr q.1, V.str q.2)) (fun z => e (by injection z))]
      rcases List.mem_cons.mp h with z | z
      · exact absurd (by rw [z]) e
      · exact look_mem nd.2 z
theorem merge_app : ∀ (l acc : List (Key × V)), ((acc ++ l).map (·.1)).Nodup → mergeK acc l = acc ++ l
  | [], acc, _ => by rw [List.append_nil]; rfl
  | p :: r, acc, h => by
    have e : valV acc p.1 = none := by
      cases q : valV acc p.1 with
      | none => rfl
      | some v =>
        exfalso
        have q1 := valV_any p.1 acc
        rw [q] at q1
        obtain ⟨z, hz, ez⟩ := List.any_eq_true.mp q1
        have ez := of_decide_eq_true ez
        rw [List.map_append, List.nodup_append] at h
        exact h.2.2 z.1 (List.mem_map_of_mem hz) p.1 (by simp) ez
    show mergeK (putK acc p.1 p.2) r = _
    rw [putK_new _ e, merge_app r _ (by rw [List.append_assoc]; exact h), List.append_assoc]; rfl
theorem nd_rev {α : Type} {l : List α} (h : l.Nodup) : l.reverse.Nodup := by
  unfold List.Nodup at h ⊢
  rw [List.pairwise_reverse]
  exact h.imp fun hn e => hn e.symm
theorem lab_keys (kvs : List (Str × Str)) : (labD kvs).map (·.1) = (kvs.map (·.1)).map Sum.inr := by
  unfold labD; rw [List.map_map, List.map_map]; rfl
theorem nd_inr {l : List Str} (h : l.Nodup) : (l.map (Sum.inr : Str → Key)).Nodup := by
  unfold List.Nodup at h ⊢
  rw [List.pairwise_map]
  exact h.imp fun hn e => hn (by injection e)

/-! ### texts in order -/
def leS (x y : Str) : Prop := ¬ (y.cps.toList < x.cps.toList)
theorem leS_trans {x y z : Str} (h : leS x y) (g : leS y z) : leS x z := List.le_trans (l₁ := x.cps.toList) (l₂ := y.cps.toList) (l₃ := z.cps.toList) h g
theorem leS_antisymm {x y : Str} (h : leS x y) (g : leS y x) : x = y := by
  have e : x.cps.toList = y.cps.toList := List.le_antisymm h g
  obtain ⟨a⟩ := x
  obtain ⟨b⟩ := y
  simp only [Str.mk.injEq] at e ⊢
  exact Array.toList_inj.mp e
/-- risingS looks at neighbours only: with a first text ahead it says that neighbours are in order -/
theorem rising_two {p x : Str} {r : List Str} : PyProof.Rows.risingS p (x :: r) = true ↔ leS p x ∧ PyProof.Rows.risingS x r = true := by
  show (!ltCps x.cps.toList p.cps.toList && PyProof.Rows.risingS x r) = true ↔ _
  rw [Bool.and_eq_true, PyProof.Rows.ltCps_eq, Bool.not_eq_true', decide_eq_false_iff_not]
  exact Iff.rfl
theorem rising_ahead {p : Str} {r : List Str} (h : PyProof.Rows.risingS p r = true) : ∀ y ∈ r, leS p y := by
  induction r generalizing p with
  | nil => exact fun y hy => nomatch hy
  | cons x r more =>
    have ⟨px, xr⟩ := rising_two.mp h
    exact fun y hy => (List.mem_cons.mp hy).elim (fun e => e ▸ px) fun hm => leS_trans px (more xr y hm)
theorem sortedS_iff (l : List Str) : PyProof.Rows.sortedS l = true ↔ l.Pairwise leS := by
  induction l with
  | nil => exact ⟨fun _ => .nil, fun _ => rfl⟩
  | cons p r more =>
    have step : PyProof.Rows.risingS p r = true ↔ (∀ y ∈ r, leS p y) ∧ PyProof.Rows.sortedS r = true := by
      match r with
      | [] => exact ⟨fun _ => ⟨fun _ hy => absurd hy List.not_mem_nil, rfl⟩, fun _ => rfl⟩
      | x :: r => exact ⟨fun h => ⟨rising_ahead h, (rising_two.mp h).2⟩, fun ⟨a, s⟩ => rising_two.mpr ⟨a x List.mem_cons_self, s⟩⟩
    exact step.trans ((and_congr_right fun _ => more).trans List.pairwise_cons.symm)
/-- there is one order -/
theorem sortedS_one {xs ys zs : List Str} (h1 : ys.Perm xs) (s1 : PyProof.Rows.sortedS ys = true) (h2 : zs.Perm xs) (s2 : PyProof.Rows.sortedS zs = true) : ys = zs :=
  List.Perm.eq_of_pairwise (le := leS) (fun _ _ _ _ h g => leS_antisymm h g) ((sortedS_iff _).mp s1) ((sortedS_iff _).mp s2) (h1.trans h2.symm)
def leB (x y : Str) : Bool := !decide (y.cps.toList < x.cps.toList)
def srt (xs : List Str) : List Str := xs.mergeSort leB
theorem srt_perm (xs : List Str) : (srt xs).Perm xs := List.mergeSort_perm xs leB
theorem srt_sorted (xs : List Str) : PyProof.Rows.sortedS (srt xs) = true := by
  rw [sortedS_iff]
  have h := List.pairwise_mergeSort (le := leB) (fun a b c h g => by
    have h := of_decide_eq_false (Bool.not_eq_true' _ |>.mp h)
    have g := of_decide_eq_false (Bool.not_eq_true' _ |>.mp g)
    exact Bool.not_eq_true' _ |>.mpr (decide_eq_false (leS_trans (x := a) (y := b) (z := c) h g)))
    (fun a b => by
      rcases List.le_total a.cps.toList b.cps.toList with h | h
      · exact Bool.or_eq_true_iff.mpr (.inl (Bool.not_eq_true' _ |>.mpr (decide_eq_false h)))
      · exact Bool.or_eq_true_iff.mpr (.inr (Bool.not_eq_true' _ |>.mpr (decide_eq_false h)))) xs
  exact h.imp fun {a b} h => of_decide_eq_false (Bool.not_eq_true' _ |>.mp h)
theorem srt_eq {xs ys : List Str} (h : ys.Perm xs) (s : PyProof.Rows.sortedS ys = true) : ys = srt xs := sortedS_one h s (srt_perm xs) (srt_sorted xs)
/-- sorted(d), within a comprehension -/
def rSD : List V → Hp → VK → Prop := fun xs H Q => ∃ (a : Addr) (kvs : List (Key × V)) (ks : List Str), xs = [.ref a] ∧ Rd H a (.dK kvs) ∧ kvs.map (·.1) = ks.map Sum.inr ∧ ks.length < 64 ∧
  ∀ ys p, ys.Perm ks → sortedS ys = true → H p = none → Q (.ref p) (upd H p (.lst (ys.map V.str)))

/-! ### sets of texts: at a lies a set of just the texts l, which can be walked -/
structure TxAt (P : Program) (w : World) (h : Heap) (a : Addr) (l : List Str) : Prop where
  once : l.Nodup
  lies : ∃ D : PySem.Froz.SD, h.get? a = some (PySem.Froz.sObj "set" D) ∧ PySem.Froz.TxOk P w D l ∧ Ris D.2.2.place.toList ∧ (w.params.followText "set-order" = true ∨ D.2.2.led = true)
/-- a text put in -/
def insT (l : List Str) (k : Str) : List Str := if k ∈ l then l else k :: l
theorem insT_once {l : List Str} {k : Str} (h : l.Nodup) : (insT l k).Nodup := by
  unfold insT; split <;> first | exact h | exact List.nodup_cons.mpr ⟨by assumption, h⟩
theorem insT_len (l : List Str) (k : Str) : (insT l k).length ≤ l.length + 1 := by
  unfold insT; split <;> simp
theorem insT_mem {l : List Str} {k x : Str} : x ∈ insT l k ↔ x ∈ l ∨ x = k := by
  unfold insT
  by_cases e : k ∈ l
  · rw [if_pos e]; exact ⟨.inl, fun z => z.elim id fun q => q ▸ e⟩
  · rw [if_neg e, List.mem_cons]; exact Or.comm
/-- the payload behind the add of a text that was not there: its places rise as before, its order is led as before -/
theorem addTx_walk {D : PySem.Froz.SD} (n : Int) (v : Value) (r : Ris D.2.2.place.toList) : Ris (PySem.Froz.addTx n v D).2.2.place.toList ∧ (PySem.Froz.addTx n v D).2.2.led = D.2.2.led := by
  have a := layNew_ris D.2.2 D.1 n v r
  have b := layNew_led D.2.2 D.1 n v
  have tail : ∀ (t : SetTable) (es : Array (Int × Value)) (d : Bool), Ris t.place.toList → t.led = D.2.2.led → Ris (PySem.Froz.tailTx D.2.1 es t d).2.2.place.toList ∧ (PySem.Froz.tailTx D.2.1 es t d).2.2.led = D.2.2.led := fun t es d x y => by
    unfold PySem.Froz.tailTx; split
    · exact ⟨relayAll_ris .., (relayAll_led ..).trans y⟩
    · exact ⟨x, y⟩
  refine tail _ _ _ ?_ ?_ <;> split <;> first | exact a | exact b
section
variable {P : Program} {w : World} {A : Around} {E : Value → Shared → Prop} {s : Shared} {a : Addr} {l : List Str} {k : Str} {u : Tok}
theorem TxAt.moves {h h' : Heap} (R : TxAt P w h a l) (m : ∀ o, h.get? a = some o → h'.get? a = some o) : TxAt P w h' a l :=
  ⟨R.once, have ⟨D, at_, r⟩ := R.lies; ⟨D, m _ at_, r⟩⟩
theorem TxAt.is (R : TxAt P w s.heap a l) : s.TypeIs (.ref a) "set" := have ⟨_, at_, _⟩ := R.lies; ⟨_, at_, rfl⟩
/-- a text that is there is found by the scan: nothing changes -/
theorem put_seen {D : PySem.Froz.SD} {Q : Bool → Shared → Prop} (at_ : s.heap.get? a = some (PySem.Froz.sObj "set" D)) (F : PySem.Froz.TxOk P w D l) (few : l.length < scanBound) (seen : k ∈ l) (q : Q false s) :
    wpAny (model P w) A (setAddHashed a (.str k u) (hashStr w k)) Q E s := by
  have ⟨e, he, is_⟩ := (F.mem k).mp seen
  have scan := byScan_of (x := .str k u) (knd := PySem.strKind P w) rfl (F.sz ▸ few) F.el
  simp only [setAddHashed]
  refine wpAny_holding ?_
  delta setAddHashedIn; dsimp only
  refine wpAny_bind (wpAny_setState_of (o := PySem.Froz.sObj "set" D) at_ rfl F.fit ?_); dsimp only
  rw [scan, if_pos rfl]; simp only [setAddByScan, bind_assoc]
  refine wpAny_bind (wpAny_rule (wpAny_bind (wpAny_setScan_of (knd := PySem.strKind P w) (k := k) (PySem.Froz.is_str k u) at_ rfl F.fit F.el ?_)))
  cases place : D.1.toList.findIdx? fun e => (PySem.strKind P w).is k e.2 with
  | none => exact absurd is_ (by rw [List.findIdx?_eq_none_iff.mp place e he]; decide)
  | some j => exact wpAny_bind (wpAny_pure (wpAny_pure q))
theorem TxAt.put {Q : Bool → Shared → Prop} (R : TxAt P w s.heap a l) (room : l.length + 1 < scanBound) (q : ∀ b h', Heap.SameBut a s.heap h' → TxAt P w h' a (insT l k) → Q b { s with heap := h' }) :
    wpAny (model P w) A (setAddHashed a (.str k u) (hashStr w k)) Q E s := by
  have ⟨D, at_, F, rise, led⟩ := R.lies
  by_cases seen : k ∈ l
  · exact put_seen at_ F (by omega) seen (q false s.heap (Heap.SameBut.refl a s.heap) (by unfold insT; rw [if_pos seen]; exact R))
  · have ⟨rise', led'⟩ := addTx_walk (D := D) (hashStr w k) (.str k u) rise
    exact PySem.Froz.add_x at_ F seen room (q true _ (Heap.SameBut.update s.heap a _) ⟨insT_once R.once, _, PySem.Froz.get_upd _ at_ rfl, by unfold insT; rw [if_neg seen]; exact PySem.Froz.add_ok u F, rise', led.imp id fun z => led'.trans z⟩)
/-- s.add(k) -/
theorem TxAt.add {Q : Value → Shared → Prop} (R : TxAt P w s.heap a l) (room : l.length + 1 < scanBound) (q : ∀ h', Heap.SameBut a s.heap h' → TxAt P w h' a (insT l k) → Q .none { s with heap := h', toks := s.toks + 1 }) :
    wpAny (model P w) A (call (.builtin "set.add") [.ref a, .str k u]) Q E s := by
  refine wpAny_call_entry F.slot_set_add R.is F.entry_set_add ?_ (F.args_set_add_2 _ _)
  simp only [Builtin.«set.add», Builtin.Frozenset.oneOther, Builtin.Frozenset.addrOf, setAdd, List.isEmpty_nil, bind_assoc]
  refine wpAny_bind (wpAny_pure (wpAny_bind (wpAny_pure (wpAny_bind (wpAny_holding (wpAny_bind ((PySem.strKind P w).pyHash (PySem.Froz.is_str k u) ?_)))))))
  exact TxAt.put (s := { s with toks := s.toks + 1 }) R room fun b h' sb r => wpAny_pure ⟨_, rfl, q h' sb r⟩
end
/-- as a tracked thing -/
def TxO (P : Program) (w : World) (a : Addr) (l : List Str) : HO := .ext fun h => TxAt P w h a l
abbrev freshO (w : World) : Obj := { cls := .type "set", dict := none, data := .set #[] 0 (.fresh 0 0 (!w.params.followText "set-order")) }
theorem TxAt.fresh {P : Program} {w : World} {h : Heap} {a : Addr} (at_ : h.get? a = some (freshO w)) : TxAt P w h a [] :=
  ⟨.nil, (#[], 0, .fresh 0 0 (!w.params.followText "set-order")), at_, PySem.Froz.TxOk.nil rfl, .nil, by cases w.params.followText "set-order" <;> first | exact .inl rfl | exact .inr rfl⟩
theorem TxAt.ok {P : Program} {w : World} {H : Hp} {h : Heap} {a : Addr} {l : List Str} (R : TxAt P w h a l) : ObjOk P w H h a (TxO P w a l) :=
  ⟨R, have ⟨_, at_, _⟩ := R.lies; ⟨_, at_⟩, fun _ _ r m => TxAt.moves r m⟩
section
variable {X : Cx} {pins : List (Addr × Obj)} {σ : L2.St} {H : Hp} {s : Shared} {a : Addr} {l : List Str}
theorem tx_at (I : Inv X pins σ H s) (at_ : H a = some (TxO X.prog X.w a l)) : TxAt X.prog X.w s.heap a l := (I.hok a _ at_).1
/-- what add leaves -/
theorem tx_add {k : Str} {u : Value} {A : Around} {E : Value → Shared → Prop} {Q : Value → Shared → Prop} (I : Inv X pins σ H s) (at_ : H a = some (TxO X.prog X.w a l)) (room : l.length + 1 < scanBound) (rel : RelV (.str k) u)
    (q : ∀ s', Inv X pins σ (upd H a (TxO X.prog X.w a (insT l k))) s' → Q .none s') : wpAny (model X.prog X.w) A (call (.builtin "set.add") [.ref a, u]) Q E s := by
  obtain ⟨t, rfl⟩ := rel
  exact TxAt.add (tx_at I at_) room fun h' sb new => q _ (I.write (e := a) (t' := s.toks + 1) (by rw [at_]; trivial) (.inl rfl) (fun b o nb old => (sb.2 b nb).trans old) (have ⟨_, there, _⟩ := new.lies; ⟨_, there⟩) new.ok)
/-- sorted(s), fewer than 64 texts -/
def rSortTx (P : Program) (w : World) : List V → Hp → VK → Prop := fun vs H Q => ∃ (a : Addr) (l : List Str), vs = [.ref a] ∧ H a = some (TxO P w a l) ∧ l.length < 64 ∧ ∀ p, H p = none → Q (.ref p) (upd H p (.lst ((srt l).map V.str)))
theorem str_of_is {P : Program} {w : World} {k : Str} {v : Value} (h : (PySem.strKind P w).is k v = true) : ∃ t, v = .str k t := by
  revert h
  show Value.isStrOf k v = true → _
  cases v with
  | str z t => exact fun h => ⟨t, by rw [eq_of_beq (show (z == k) = true from h)]⟩
  | _ => exact fun h => absurd h (by simp [Value.isStrOf])
/-- values that are texts, as texts -/
theorem strs_each : ∀ {vs : List Value}, (∀ v ∈ vs, ∃ k t, v = Value.str k t) → ∃ ks, StrsAre vs ks ∧ ∀ k, k ∈ ks ↔ ∃ t, Value.str k t ∈ vs
  | [], _ => ⟨[], .nil, fun k => by simp⟩
  | v :: vs, h => by
    obtain ⟨k, t, rfl⟩ := h v List.mem_cons_self
    obtain ⟨ks, a, b⟩ := strs_each fun u hu => h u (List.mem_cons_of_mem _ hu)
    refine ⟨k :: ks, .cons k t a, fun x => ?_⟩
    simp only [List.mem_cons, b x, Value.str.injEq]
    exact ⟨fun z => z.elim (fun e => ⟨t, .inl ⟨e, rfl⟩⟩) fun ⟨u, q⟩ => ⟨u, .inr q⟩, fun ⟨u, z⟩ => z.elim (fun e => .inl e.1) fun q => .inr ⟨u, q⟩⟩
/-- two lists of one length, one without doubles and within the other: the same but for their order -/
theorem perm_within : ∀ {l ks : List Str}, l.Nodup → (∀ x ∈ l, x ∈ ks) → ks.length = l.length → ks.Perm l
  | [], ks, _, _, e => by rw [List.length_eq_zero_iff.mp e]
  | x :: r, ks, nd, sub, e => by
    have ⟨nx, nr⟩ := List.nodup_cons.mp nd
    have hx := sub x List.mem_cons_self
    have p := List.perm_cons_erase hx
    have len : (ks.erase x).length = r.length := by
      have := p.length_eq
      simp only [List.length_cons] at this e
      omega
    exact p.trans ((perm_within nr (fun y hy => (List.mem_erase_of_ne fun z : y = x => nx (z ▸ hy)).mpr (sub y (List.mem_cons_of_mem _ hy))) len).cons x)
/-- what is gathered of it -/
theorem TxAt.gathered {P : Program} {w : World} {A : Around} {E : Value → Shared → Prop} {Q : List Value → Shared → Prop} (R : TxAt P w s.heap a l) (calm : A.handled = none) (few : l.length < scanBound)
    (q : ∀ s' vs ks, (∀ b o, s.heap.get? b = some o → s'.heap.get? b = some o) → s.heap.objs.size ≤ s'.heap.objs.size → s'.gens = s.gens → s'.os = s.os → StrsAre vs ks → ks.Perm l → Q vs s') : wpAny (model P w) A (collect (.ref a)) Q E s := by
  have ⟨D, at_, F, rise, led⟩ := R.lies
  refine collect_set calm ⟨_, at_, rfl, rfl⟩ F.fit (F.sz ▸ few) rise led fun s' vs keep big gens os perm => ?_
  have texts : ∀ v ∈ vs, ∃ k t, v = Value.str k t := fun v hv => by
    obtain ⟨e, he, rfl⟩ := List.mem_map.mp (perm.mem_iff.mp hv)
    have ⟨⟨k, is_, _⟩, _⟩ := F.el e he
    exact ⟨k, str_of_is is_⟩
  have ⟨ks, are, mem⟩ := strs_each texts
  refine q s' vs ks keep big gens os are (perm_within R.once (fun x hx => ?_) ?_)
  · have ⟨e, he, is_⟩ := (F.mem x).mp hx
    have ⟨t, et⟩ := str_of_is is_
    exact (mem x).mpr ⟨t, perm.mem_iff.mpr (List.mem_map.mpr ⟨e, he, et⟩)⟩
  · have l1 : vs.length = ks.length := are.length
    have l2 := perm.length_eq
    rw [List.length_map, Array.length_toList (xs := D.1), F.sz] at l2
    exact l1.symm.trans l2
theorem cr_sortTx (calm : X.calm = true) : CallR X (.builtin "sorted") (rSortTx X.prog X.w) := fun pins s σ H vs us Q I rel ⟨a, l, e, at_, few, q⟩ => by
  subst e
  rw [Vals.ref1 rel]
  refine Calls.call_function_entry kind_sorted plain_sorted entry_sorted (args_sorted1 _) (wpAny_bind (m := checkCount "sorted" 1 1 _) (wpAny_pure (wpAny_bind (TxAt.gathered (tx_at I at_) (I.ok.hd calm) (by unfold scanBound; omega) fun s1 vs ks keep big gens os are perm => ?_))))
  have len : vs.length < 64 := by rw [are.length, perm.length_eq]; exact few
  have there : (s1.heap.push (seqObj "list" vs.toArray 0)).get? s1.heap.objs.size = some (seqObj "list" vs.toArray 0) := Heap.get?_push_size _ rfl
  refine wpAny_bind (wpAny_newList (wpAny_bind (wpAny_holding (wpAny_call_entry slot_list_sort ⟨_, there, rfl⟩ entry_list_sort (list_sort_treeK strKind_oneLt there are.keysOf (fun _ _ _ e => keyKind_strs (e ▸ are)) len fun st p1 p2 => ⟨_, rfl, ?_⟩) (args_list_sort _)))) (by rw [sizeLine_eq]; omega))
  have ⟨ys, y1, y2, y3⟩ := sorted_out_str are p1 p2
  have ⟨c, laid⟩ := sortedHeap_at (vs := vs) (out := (arrOf st).map (·.2)) there
  have ey : ys = srt l := srt_eq (y2.trans perm) y3
  subst ey
  have free : H s1.heap.objs.size = none := I.hok.fresh big
  have kept : ∀ b o, s.heap.get? b = some o → (sortedHeap (s1.heap.push (seqObj "list" vs.toArray 0)) s1.heap.objs.size vs ((arrOf st).map (·.2))).get? b = some o := fun b o old => by
    have old1 := keep b o old
    have lt := Heap.lt_size old1
    rw [sortedHeap_old (Nat.ne_of_lt lt) (by rw [size_push']; exact Nat.lt_succ_of_lt lt)]
    exact Heap.get?_push_of_some _ old1
  have long : ((srt l).map V.str).length ≤ sizeLine := by rw [List.length_map, (srt_perm l).length_eq, sizeLine_eq]; omega
  exact wpAny_pure ⟨_, rfl, .ref _, upd H s1.heap.objs.size (.lst ((srt l).map V.str)), I.call' (ch := []) os (Un.laid kept big free) (I.hok.laid kept big ⟨long, _, c, vals_of_strs y1, by rw [Array.toArray_toList]; exact laid⟩) (by rw [gens]; exact I.bare) (fun _ z => nomatch z), rfl, q _ free⟩
end

/-! ### turns over a walk: one lemma for every kind of comprehension -/
/-- the turns of a comprehension that walks J, from the heap start: Fin holds behind the last one -/
abbrev Turns (J : It) (start : Hp) (Fin : Hp → Prop) (step : (Hp → Prop) → V → Hp → Prop) : Prop := ∃ W : Nat → Nat → Hp → Prop, (∃ m, W 0 m start) ∧ ∀ at_ left now, W at_ left now →
  (J.stop at_ now ∧ Fin now) ∨ (J.go at_ now ∧ ∃ Nx : Hp → Prop, (∀ h, Nx h → ∃ m', m' < left ∧ W (at_ + 1) m' h) ∧ ∀ item h, J.yld at_ now item h → step Nx item h)
/-- step Nx x H: what a turn with the item x asks, Nx what it must leave. The measure is what is left of the walk. -/
theorem turns {J : It} {len : Nat} {G : Hp → Prop} {Y : Nat → Hp → V → Hp → Prop} (wk : Walk J len G Y) {step : (Hp → Prop) → V → Hp → Prop} {start : Hp} {Fin : Hp → Prop} (Inv' : Nat → Hp → Prop)
    (begin_ : Inv' 0 start) (open_ : ∀ {at_ now}, at_ ≤ len → Inv' at_ now → G now)
    (turn_ : ∀ {at_ now item then_}, at_ < len → Inv' at_ now → Y at_ now item then_ → step (Inv' (at_ + 1)) item then_) (end_ : ∀ {now}, Inv' len now → Fin now) :
    Turns J start Fin step :=
  ⟨fun at_ left now => at_ + left = len ∧ Inv' at_ now, ⟨len, Nat.zero_add len, begin_⟩, fun at_ left now ⟨sum, holds⟩ => match left, sum with
    | 0, sum => have all : at_ = len := sum
      .inl ⟨all ▸ wk.stops now (open_ (Nat.le_refl len) (all ▸ holds)), end_ (all ▸ holds)⟩
    | more + 1, sum => have lt : at_ < len := by omega
      have g := open_ (Nat.le_of_lt lt) holds
      .inr ⟨wk.goes at_ now lt g, Inv' (at_ + 1), fun h nx => ⟨more, Nat.lt_succ_self more, by omega, nx⟩, fun item h y => turn_ lt holds (wk.yields at_ now item h lt g y)⟩⟩
/-- a dict comprehension over a walk: what a turn asks -/
abbrev dcStep (g : TG) (tt : TT) (tk tv : TE) (vs : List Nat) (σ : L2.St) (D : Addr) : (Hp → Prop) → V → Hp → Prop := fun Nx x H' => g x (wipe σ vs) H' fun σ2 H2 => wipe σ2 vs = wipe σ vs ∧ tt σ2 H2 fun b H3 =>
  if b = true then tk σ2 H3 fun y H4 => tv σ2 H4 fun z H5 => ∃ kvs k, y = kV k ∧ H5 D = some (.dK kvs) ∧ kvs.length < sizeLine ∧ Nx (upd H5 D (.dK (putK kvs k z))) else Nx H3
theorem dc_it {J : It} {n : Nat} {G : Hp → Prop} {Y : Nat → Hp → V → Hp → Prop} (w : Walk J n G Y) {g : TG} {tt : TT} {tk tv : TE} {vs : List Nat} {σ : L2.St} {H1 : Hp} {D : Addr} {Qd : Hp → Prop} (Pv : Nat → Hp → Prop) (h0 : Pv 0 (upd H1 D (.dK []))) (hG : ∀ i H, i ≤ n → Pv i H → G H)
    (hs : ∀ i x H H', i < n → Pv i H → Y i H x H' → dcStep g tt tk tv vs σ D (Pv (i + 1)) x H') (hd : ∀ H, Pv n H → Qd H) : Turns J (upd H1 D (.dK [])) Qd (dcStep g tt tk tv vs σ D) :=
  turns w Pv h0 (hG _ _) (hs _ _ _ _) (hd _)

/-! ### the block of a comprehension while its iterator turns -/
/-- in the block Y the next turn of the iterator is the i-th, the heap is H -/
structure Stand (Y : Cx) (tn : Nat → Heap → Prop) (fp : List Addr) (σ : L2.St) (i : Nat) (H : Hp) (s : Shared) : Prop where
  inv : Inv Y [] σ H s
  turn : tn i s.heap
  own : ∀ b ∈ fp, H b = none
section
variable {X : Cx} {s0 : Shared} {H0 H : Hp} {scope : Scope} {ce : Env} {fp : List Addr} {tn : Nat → Heap → Prop} {σ : L2.St} {i : Nat} {s : Shared} {tg : Expr} {J : It} {it : Addr}
theorem Stand.may (st : Stand (X.blk s0 H0 scope ce fp) tn fp σ i H s) (b : Addr) (hb : b ∈ fp) : FpOk (X.blk s0 H0 scope ce fp) [] H b :=
  have ⟨one, two⟩ := st.inv.ok.exf b hb
  ⟨st.own b hb, one, st.inv.ok.exfs b hb, .inl hb, two, fun p hp => by simp at hp⟩
/-- a turn is over: what was pinned during it is as it was, the block's own names are forgotten -/
theorem Stand.over {P : Program} {w : World} {K : PySem.W.Frag} {Y : Cx} {s1 s' : Shared} {σ' : L2.St} {vs : List Nat} {H' : Hp} (T : Turn P w K tg J fp it tn) (turn : tn i s1.heap) (clean : wipe σ' vs = σ)
    (I : Inv Y ([] ++ pinsAt fp s1.heap) σ' H' s') : Stand Y tn fp σ i H' s' :=
  have pin : ∀ {b o}, b ∈ fp → s1.heap.get? b = some o → s'.heap.get? b = some o ∧ H' b = none := fun {b o} hb at_ =>
    have z := I.pin (b, o) (List.mem_append_right _ (List.mem_append_right _ (mem_pinsAt hb at_)))
    ⟨z.1, z.2.1⟩
  { inv := (I.unpinned (pins := [])).weak (by rw [← clean, wipe_length]) fun j v e => (wipe_some (clean ▸ e)).1
    turn := T.keep _ _ _ turn fun b hb o at_ => (pin hb at_).1
    own := fun b hb => have ⟨_, at_, _⟩ := T.obj _ _ turn b hb; (pin hb at_).2 }
/-- what a turn asks: the text that comes is put into the set at D -/
abbrev scxStep (P : Program) (w : World) (g : TG) (tt : TT) (te : TE) (vs : List Nat) (σ : L2.St) (D : Addr) : (Hp → Prop) → V → Hp → Prop := fun Nx x H' => g x (wipe σ vs) H' fun σ2 H2 => wipe σ2 vs = wipe σ vs ∧ tt σ2 H2 fun b H3 =>
  if b = true then te σ2 H3 fun y H4 => ∃ (k : Str) (l : List Str), y = .str k ∧ H4 D = some (TxO P w D l) ∧ l.length + 1 < scanBound ∧ Nx (upd H4 D (TxO P w D (insT l k))) else Nx H3
theorem scx_loop {elt iter : Expr} {ifs : List Expr} {pos : Pos} {vs : List Nat} {g : TG} {tt : TT} {te : TE} {D : Addr} {R : Result → Shared → Prop} {Fin : Hp → Prop} (calm : X.calm = true) (T : Turn X.prog X.w X.K tg J fp it tn)
    (pg : PG (X.blk s0 H0 scope ce fp) tg g) (pt : PTs (X.blk s0 H0 scope ce fp) ifs tt) (pe : PE (X.blk s0 H0 scope ce fp) elt te) (st : Stand (X.blk s0 H0 scope ce fp) tn fp (wipe σ vs) 0 H s)
    (turns_ : Turns J H Fin (scxStep X.prog X.w g tt te vs σ D)) (fin : ∀ H' s', Inv (X.blk s0 H0 scope ce fp) [] (wipe σ vs) H' s' → Fin H' → R (.ok .next) s') :
    codeAny (model X.prog X.w) X.A (.compLoop (.SetComp elt [⟨tg, iter, ifs, 0⟩] scope pos) 0 (.ref it) (.ref D) ce) R s := by
  obtain ⟨W, ⟨m0, w0⟩, go_⟩ := turns_
  refine PpSet.compLoopS_any (fun n s' => ∃ i H', Stand (X.blk s0 H0 scope ce fp) tn fp (wipe σ vs) i H' s' ∧ W i n H') (fun n s5 ⟨i, H5, st5, w5⟩ => ?_) m0 ⟨0, H, st, w0⟩
  match go_ i n H5 w5 with
  | .inl ⟨stop, over⟩ => exact thnF (T.done (X.blk s0 H0 scope ce fp) rfl rfl rfl calm i [] s5 _ H5 (fun _ _ => False) st5.inv st5.may st5.turn stop) fun r s6 ⟨e, I6⟩ => by subst e; exact fin H5 s6 I6 over
  | .inr ⟨go, Nx, next, step⟩ =>
    refine thnF (T.item (X.blk s0 H0 scope ce fp) rfl rfl rfl calm i [] s5 _ H5 (fun _ _ => False) st5.inv st5.may st5.turn go) fun r s6 ⟨u, e, came⟩ => ?_
    subst e
    refine thnF came fun _ s7 ⟨x, H7, I7, rel, yld, turn7, own7⟩ => ?_
    have at7 : Stand (X.blk s0 H0 scope ce fp) tn fp (wipe σ vs) (i + 1) H7 s7 := ⟨I7, turn7, own7⟩
    refine thnF (pg.run _ s7 _ H7 x u _ (I7.pinned at7.may (T.obj _ _ turn7)) rel (step x H7 yld)) fun _ s8 ⟨σ8, H8, I8, clean, q8⟩ => ?_
    have back : ∀ {H' s'}, Inv (X.blk s0 H0 scope ce fp) ([] ++ pinsAt fp s7.heap) σ8 H' s' → Nx H' → ∃ m, m < n ∧ ∃ i H', Stand (X.blk s0 H0 scope ce fp) tn fp (wipe σ vs) i H' s' ∧ W i m H' := fun I' nx =>
      have ⟨m, less, w'⟩ := next _ nx
      ⟨m, less, i + 1, _, Stand.over T turn7 clean I', w'⟩
    refine thnF (pt.run _ s8 σ8 H8 _ I8 q8) fun yes s9 ⟨H9, I9, q9⟩ => ?_
    match yes, q9 with
    | false, q9 => exact back I9 q9
    | true, q9 => exact thnF (pe.run _ s9 σ8 H9 _ I9 q9) fun v s10 ⟨y, H10, I10, ry, k, l, ey, at_, room, nx⟩ => by subst ey; exact tx_add (X := X.blk s0 H0 scope ce fp) I10 at_ room ry fun s' I' => back I' nx
/-- {elt for target in iter if ..}, elt a text: D is the new set -/
def tScx (P : Program) (w : World) (wi : TI) (g : TG) (tt : TT) (te : TE) (vs : List Nat) : TE := fun σ H Q => wi σ H fun J H1 => ∀ D, H1 D = none → Turns J (upd H1 D (TxO P w D [])) (Q (.ref D)) (scxStep P w g tt te vs σ D)
theorem pe_scx {elt iter : Expr} {ifs : List Expr} {own : List (Str × Nat)} {pos : Pos} {wi : TI} {g : TG} {tt : TT} {te : TE} (calm : X.calm = true) (nd : X.N.Nodup) (hi : PI X tg iter wi) (ok : BlkOk X.N X.env.scope scope own)
    (hg : ∀ (s : Shared) (H : Hp) (C : Addr) (cl : List (Str × Addr)) (fp : List Addr), PG (X.blk s H scope (compEnvC scope cl C X.env) fp) tg g) (ht : ∀ (s : Shared) (H : Hp) (C : Addr) (cl : List (Str × Addr)) (fp : List Addr), PTs (X.blk s H scope (compEnvC scope cl C X.env) fp) ifs tt) (he : ∀ (s : Shared) (H : Hp) (C : Addr) (cl : List (Str × Addr)) (fp : List Addr), PE (X.blk s H scope (compEnvC scope cl C X.env) fp) elt te) (plain : ∀ x, foldedSetIterable iter X.env x = pure x := by intro _; rfl) :
    PE X (.SetComp elt [⟨tg, iter, ifs, 0⟩] scope pos) (tScx X.prog X.w wi g tt te (own.map (·.2))) := by
  refine ⟨fun pins s σ H Q I want => ?_⟩
  have cells : ∀ y ∈ scope.names, y.2 = .free → ∃ c, X.env.cells.lookup y.1 = some c := fun y hy e => I.ok.has _ (ok.free y hy e)
  rw [PpSet.eval_SetComp]
  refine wpAny_comprehension_free (use := none) rfl plain (closure_ok cells) ok.kind (fun y hy e => (ok.uniq y hy).trans (congrArg some e)) (thn (hi.run pins s σ H _ I want) fun _ s1 came => thn came fun itv s2 ⟨it, fp, tn, J, H2, eit, I2, T, turn2, may2, turns_⟩ => ?_)
  subst eit
  refine PpSet.newSet_ok (newEnv_comp ?_)
  -- the new set, tracked
  have free2 : H2 s2.heap.objs.size = none := I2.hok.fresh (Nat.le_refl _)
  have told := turns_ _ free2
  have keep3 : ∀ b o, s2.heap.get? b = some o → (s2.heap.push (freshO X.w)).get? b = some o := fun b o old => Heap.get?_push_of_some _ old
  have I3 : Inv X pins σ (upd H2 s2.heap.objs.size (TxO X.prog X.w s2.heap.objs.size [])) { s2 with heap := s2.heap.push (freshO X.w) } := I2.laid (t' := s2.toks) keep3 (Nat.le_refl _) (TxAt.fresh (Heap.get?_push_size _ rfl)).ok
  have below : ∀ b ∈ fp, b < s2.heap.objs.size := fun b hb => have ⟨_, at_, _⟩ := T.obj _ _ turn2 b hb; Heap.lt_size at_
  have may3 : ∀ b ∈ fp, FpOk X pins (upd H2 s2.heap.objs.size (TxO X.prog X.w s2.heap.objs.size [])) b ∧ b < (s2.heap.push (freshO X.w)).objs.size := fun b hb =>
    ⟨⟨by rw [upd_ne (Nat.ne_of_lt (below b hb))]; exact (may2 b hb).1, (may2 b hb).2⟩, by rw [Heap.size_push]; exact Nat.lt_succ_of_lt (below b hb)⟩
  generalize e3 : ({ s2 with heap := s2.heap.push (freshO X.w) } : Shared) = s3 at I3 ⊢
  have h3 : s3.heap = s2.heap.push (freshO X.w) := by rw [← e3]
  rw [← h3] at may3 keep3
  generalize upd H2 s2.heap.objs.size (TxO X.prog X.w s2.heap.objs.size []) = H3 at told I3 may3
  generalize s2.heap.objs.size = D at told ⊢
  show codeAny _ _ (.compStart (.SetComp elt [⟨tg, iter, ifs, 0⟩] scope pos) 0 (.ref it) (.ref D) (compEnvC scope (cellsFrom (s3.heap.objs.size + 1) scope.names (cloFrom X.env.cells scope.names [])) s3.heap.objs.size X.env)) (compPost (model X.prog X.w) X.A X.xe none (EP X pins σ Q) (.ref D) s3.heap.objs.size) { s3 with heap := pushCells (s3.heap.push { cls := .type "dict", data := .dict #[] }) scope.names }
  -- the block
  have I4 := block_start I3 ok nd may3
  have G := hg s3 H3 s3.heap.objs.size (cellsFrom (s3.heap.objs.size + 1) scope.names (cloFrom X.env.cells scope.names [])) fp
  have Ts := ht s3 H3 s3.heap.objs.size (cellsFrom (s3.heap.objs.size + 1) scope.names (cloFrom X.env.cells scope.names [])) fp
  have Es := he s3 H3 s3.heap.objs.size (cellsFrom (s3.heap.objs.size + 1) scope.names (cloFrom X.env.cells scope.names [])) fp
  have locals_ : (compEnvC scope (cellsFrom (s3.heap.objs.size + 1) scope.names (cloFrom X.env.cells scope.names [])) s3.heap.objs.size X.env).locals = s3.heap.objs.size := rfl
  generalize compEnvC scope (cellsFrom (s3.heap.objs.size + 1) scope.names (cloFrom X.env.cells scope.names [])) s3.heap.objs.size X.env = ce at I4 G Ts Es locals_ ⊢
  generalize e4 : ({ s3 with heap := pushCells (s3.heap.push { cls := .type "dict", data := .dict #[] }) scope.names } : Shared) = s4 at I4 ⊢
  have turn4 : tn 0 s4.heap := T.keep _ _ _ turn2 fun b _ o old => by rw [← e4]; exact pushCells_keeps _ _ _ _ (Heap.get?_push_of_some _ (keep3 b o old))
  have loop := scx_loop (elt := elt) (iter := iter) (pos := pos) (R := compPost (model X.prog X.w) X.A X.xe none (EP X pins σ Q) (.ref D) s3.heap.objs.size) calm T G Ts Es ⟨I4, turn4, fun b hb => (may3 b hb).1.1⟩ told fun H' s' I' q => by
    have ⟨m, ns, _⟩ := I'.loc
    have free' : H' s3.heap.objs.size = none := locals_ ▸ I'.free
    have ⟨f0, f1, _, f3, f4, f5⟩ := I3.fpOk (H' := H') (Nat.le_refl _) free'
    have I6 : Inv X pins σ H' s' := I3.call' (ch := fp) I'.os I'.base I'.hok I'.bare fun b hb => have ⟨_, z1, _, z3, z4, z5⟩ := (may3 b hb).1; ⟨z3, z1, z4, z5⟩
    exact ⟨m, locals_ ▸ ns, fun h' sb => ⟨.ref D, H', I6.turned (t' := s'.toks) (fun b o nb old => (sb.2 b nb).trans old) f0 f1 f3 f4 f5, rfl, q⟩⟩
  exact PpSet.codeAny_compStart_set loop (T.self X.A 0 s4 _ _ turn4 loop)
end
/-- over a walk -/
theorem scx_it {P : Program} {w' : World} {J : It} {n : Nat} {G : Hp → Prop} {Y : Nat → Hp → V → Hp → Prop} (w : Walk J n G Y) {g : TG} {tt : TT} {te : TE} {vs : List Nat} {σ : L2.St} {H1 : Hp} {D : Addr} {Qd : Hp → Prop} (Pv : Nat → Hp → Prop) (h0 : Pv 0 (upd H1 D (TxO P w' D []))) (hG : ∀ i H, i ≤ n → Pv i H → G H)
    (hs : ∀ i x H H', i < n → Pv i H → Y i H x H' → scxStep P w' g tt te vs σ D (Pv (i + 1)) x H') (hd : ∀ H, Pv n H → Qd H) : Turns J (upd H1 D (TxO P w' D [])) Qd (scxStep P w' g tt te vs σ D) :=
  turns w Pv h0 (hG _ _) (hs _ _ _ _) (hd _)

/-! ### set(a list of texts) -/
def putAll (l : List Str) (xs : List Str) : List Str := xs.foldl insT l
theorem putAll_snoc (l xs : List Str) (k : Str) : putAll l (xs ++ [k]) = insT (putAll l xs) k := by unfold putAll; rw [List.foldl_append]; rfl
theorem putAll_len : ∀ (xs l : List Str), (putAll l xs).length ≤ l.length + xs.length
  | [], l => Nat.le_refl _
  | x :: xs, l => by
    have a := putAll_len xs (insT l x)
    have b := insT_len l x
    show (putAll (insT l x) xs).length ≤ _
    rw [List.length_cons]; omega
theorem putAll_mem : ∀ {xs l : List Str} {x : Str}, x ∈ putAll l xs ↔ x ∈ l ∨ x ∈ xs
  | [], l, x => by simp [putAll]
  | y :: xs, l, x => by
    show x ∈ putAll (insT l y) xs ↔ _
    rw [putAll_mem, insT_mem, List.mem_cons, or_assoc]
theorem putAll_once : ∀ {xs l : List Str}, l.Nodup → (putAll l xs).Nodup
  | [], _, h => h
  | y :: xs, l, h => show (putAll (insT l y) xs).Nodup from putAll_once (insT_once h)
section
variable {P : Program} {w : World} {A : Around} {E : Value → Shared → Prop} {s : Shared}
theorem update_once {S I : Addr} {R : Result → Shared → Prop} (h : wpAny (model P w) A.in1 (Builtin.«set.update.loop» ⟨[.ref S, .ref I], []⟩) (fun fin s' => match fin with | .done fl => R (.ok fl) s' | .again c => c.quiet = true ∧ codeAny (model P w) A c R s') (fun x s' => R (.error x) s') s) : codeAny (model P w) A (.builtin "set.update.loop" ⟨[.ref S, .ref I], []⟩) R s :=
  codeAny_builtin PyProof.Rows.F.entry_set_update_loop (by rw [Around.under_plainId PyProof.Rows.F.plain_set_update_loop _]; exact h)
/-- the loop that puts what an iterator has left into the set at S -/
theorem tx_update {I S : Addr} {fp wr : List Addr} {G : Array GenState → Array GenState → Prop} {n : Nat} {Pv : Nat → Value → Prop} {St : Nat → Shared → Prop} {R : Result → Shared → Prop} {xs : List Str} (W : WalksS P w A.in1 I fp wr G n Pv St) (apart_ : S ∉ fp)
    (is_ : ∀ i v, Pv i v → ∃ k t, xs[i]? = some k ∧ v = .str k t) (len : xs.length = n) (few : n + 1 < scanBound) : ∀ (rest done : List Str) (s : Shared), done ++ rest = xs → St done.length s → TxAt P w s.heap S (putAll [] done) →
      (∀ s', Moved (S :: wr) G s s' → TxAt P w s'.heap S (putAll [] xs) → R (.ok (.ret .none)) s') → codeAny (model P w) A (.builtin "set.update.loop" ⟨[.ref S, .ref I], []⟩) R s
  | [], done, s, all, st, R0, q => by
    rw [List.append_nil] at all; subst all; subst len
    exact update_once (wpAny_bind (W.done s _ _ st fun s' mv => wpAny_pure (q s' (mv.mono fun b hb => List.mem_cons_of_mem _ hb) (R0.moves fun o at_ => mv.heap S o (fun z => apart_ (W.sub _ z)) at_))))
  | x :: rest, done, s, all, st, R0, q => by
    have lt : done.length < n := by rw [← len, ← all, List.length_append, List.length_cons]; omega
    refine update_once (wpAny_bind (W.item done.length s _ _ lt st fun v s' pv st' mv => ?_))
    obtain ⟨k, t, ek, rfl⟩ := is_ _ _ pv
    have ex : k = x := by rw [← all, List.getElem?_append_right (Nat.le_refl _), Nat.sub_self] at ek; exact (Option.some.inj ek).symm
    subst ex
    have R1 : TxAt P w s'.heap S (putAll [] done) := R0.moves fun o at_ => mv.heap S o (fun z => apart_ (W.sub _ z)) at_
    have short : (putAll [] done).length + 1 < scanBound := by have := putAll_len done []; simp only [List.length_nil] at this; omega
    show wpAny _ A.in1 (holding [Value.str k t] (setAdd S (.str k t)) >>= _) _ _ s'
    refine wpAny_bind (wpAny_holding (wpAny_holding (wpAny_bind ((PySem.strKind P w).pyHash (k := k) (PySem.Froz.is_str k t) (TxAt.put (s := { s' with toks := s'.toks + 1 }) R1 short fun b h' sb R2 => wpAny_pure ⟨plainId_quiet PyProof.Rows.F.plain_set_update_loop _, ?_⟩)))))
    refine tx_update W apart_ is_ len few rest (done ++ [k]) _ (by rw [List.append_assoc]; exact all) (by rw [List.length_append]; exact W.frame _ s' _ _ st' (Nat.le_succ _) fun b hb o at_ => by rw [sb.2 b fun z => apart_ (z ▸ hb)]; exact at_) (by rw [putAll_snoc]; exact R2) fun s'' mv' R3 => q s'' (Moved.trans W.gtrans ((mv.mono fun b hb => List.mem_cons_of_mem _ hb).then_heap (Nat.le_succ _) fun b o nb at_ => by rw [sb.2 b fun z => nb (z ▸ List.mem_cons_self)]; exact at_) mv') R3
set_option maxHeartbeats 3200000 in
/-- set(v): the new set, then its __init__ -/
theorem made_set {v : Value} {Q : Value → Shared → Prop} (init : ∀ A' : Around, A'.handled = A.handled → codeAny (model P w) A' (.call (.builtin "set.__init__") ⟨[.ref s.heap.objs.size, v], []⟩) (wants (fun r s' => r = .none ∧ Q (.ref s.heap.objs.size) s') E) { s with heap := s.heap.push (freshO w) }) :
    wpAny (model P w) A (call (.type "set") [v]) Q E s := by
  have ⟨_, _, mro_⟩ := F.called_set.mro
  have a1 := F.called_set.made
  have a2 := F.called_set.sub
  have a3 := F.called_set.notType
  have a4 := F.called_set.canCreate
  have a5 := F.typeCall_set_1 v
  refine wpAny_call (codeAny_of_tree (show wpAny _ _ (callAny (.type "set") _) _ _ _ from wpAny_pure ⟨Code.quiet_builtin _ (by decide +kernel), codeAny_builtin F.entry_type_call ?_⟩))
  rw [Around.under_plain (weight_type_call_type "set" [v] []) rfl]
  repeat any_goals first | assumption | wp_step
  refine codeAny_mono (code_set_led1 v (E := E) (Q₁ := fun o s1 => o = .ref s.heap.objs.size ∧ s1 = { s with heap := s.heap.push (freshO w) }) ⟨rfl, rfl⟩) fun r s1 hr => ?_
  match r, hr with
  | .error x, hr => exact hr
  | .ok (.ret o), ⟨eo, es⟩ =>
    subst eo; subst es
    have b1 : Shared.TypeIs { s with heap := s.heap.push (freshO w) } (.ref s.heap.objs.size) "set" := ⟨_, Heap.get?_push_size _ rfl, rfl⟩
    have b2 := F.called_set.init.lookup
    have b3 := F.called_set.init.bind (.ref s.heap.objs.size)
    repeat any_goals first | assumption | wp_step
    refine codeAny_mono (init _ (by simp)) fun r2 s2 hr2 => ?_
    match r2, hr2 with
    | .error x, hr2 => exact hr2
    | .ok (.ret o), ⟨eo, q⟩ =>
      subst eo
      repeat any_goals first | assumption | wp_step
set_option maxHeartbeats 3200000 in
theorem init_texts {S l : Addr} {items : Array Value} {xs : List Str} {R : Shared → Prop} (calm : A.handled = none) (new : s.heap.get? S = some (freshO w)) (ne : S ≠ l) (at_ : s.heap.IsList l items) (are : StrsAre items.toList xs) (few : xs.length + 1 < scanBound)
    (q : ∀ h' t, (∀ b o, b ≠ S → s.heap.get? b = some o → h'.get? b = some o) → TxAt P w h' S (putAll [] xs) → R { s with heap := h', toks := t }) :
    codeAny (model P w) A (.call (.builtin "set.__init__") ⟨[.ref S, .ref l], []⟩) (wants (fun r s' => r = .none ∧ R s') E) s := by
  have ty : s.TypeIs (.ref S) "set" := ⟨_, new, rfl⟩
  have len : items.size = xs.length := by have := are.length; rwa [Array.length_toList] at this
  refine codeAny_call_builtin (R := wants (fun r s' => r = .none ∧ R s') E) F.called_set.init.plain F.entry_set_init (check_set_init_1 ty ?_)
  have ⟨ol, ho, hc, n, hd⟩ := id at_
  obtain ⟨cl_, dict_, data_, slots_⟩ := ol
  dsimp only at hc hd
  subst hc hd
  have c1 := F.sub_list_set
  have c2 := F.sub_list_frozenset
  have c3 : (Value.type "list" == Value.type "dict") = false := by decide
  delta Builtin.«set.__init__» noKeywords Builtin.Frozenset.updateFrom
  generalize hold : pyIter = it_
  wp_walk
  subst hold
  have lt1 : l < s.heap.objs.size := Heap.lt_size ho
  have lt2 : S < s.heap.objs.size := Heap.lt_size new
  refine wpAny_pyIter_list at_ (wpAny_bind (wpAny_runValue (tx_update (xs := xs) ((Walks.list (A := A.in1.in1) (by simp [calm]) s.heap.objs.size l (Nat.ne_of_lt lt1) items).toS) (S := S) ?_ ?_ len.symm (by rw [len]; exact few) xs [] _ rfl ⟨⟨_, Heap.get?_push_size _ rfl, rfl, rfl⟩, at_.push _⟩ (TxAt.fresh (Heap.get?_push_of_some _ new)) ?_)))
  · simp only [List.mem_cons, List.not_mem_nil, or_false, not_or]; exact ⟨Nat.ne_of_lt lt2, ne⟩
  · intro i v hv0
    have hv : items.toList[i]? = some v := by rw [Array.getElem?_toList]; exact hv0
    clear q few len new at_ ho hv0
    generalize items.toList = vs at are hv
    induction are generalizing i with
    | nil => simp at hv
    | cons y t _ more =>
      match i, hv with
      | 0, hv => exact ⟨y, t, rfl, (Option.some.inj hv).symm⟩
      | i + 1, hv => exact more i hv
  · intro s' mv R1
    obtain ⟨h', gen', drawn', t', os'⟩ := s'
    obtain rfl : gen' = s.gens := mv.gens
    obtain rfl : drawn' = s.drawn := mv.drawn
    obtain rfl : os' = s.os := mv.os
    refine wpAny_pure (wpAny_pure ⟨rfl, q h' t' (fun b o nb old => mv.heap b o ?_ (Heap.get?_push_of_some _ old)) R1⟩)
    simp only [List.mem_cons, List.not_mem_nil, or_false, not_or]
    exact ⟨nb, Nat.ne_of_lt (Heap.lt_size old)⟩
end
/-- set(xs), xs a list of texts -/
def rSetTx (K : PySem.W.Frag) (P : Program) (w : World) : List V → Hp → VK → Prop := fun vs H Q => ∃ (a : Addr) (xs : List Str), vs = [.ref a] ∧ SqL K H a (xs.map V.str) ∧ xs.length + 1 < scanBound ∧ ∀ p, H p = none → Q (.ref p) (upd H p (TxO P w p (putAll [] xs)))
theorem cr_setTx {X : Cx} (calm : X.calm = true) : CallR X (.type "set") (rSetTx X.K X.prog X.w) := fun pins s σ H vs us Q I rel ⟨a, xs, e, at_, few, q⟩ => by
  subst e
  rw [Vals.ref1 rel]
  have ⟨its, vals, is_, _⟩ := I.list at_
  have list_ := is_.isList
  refine made_set fun A' same => ?_
  have lt : a < s.heap.objs.size := have ⟨_, h, _⟩ := list_; Heap.lt_size h
  refine init_texts (items := its.toArray) (xs := xs) (same.trans (I.ok.hd calm)) (Heap.get?_push_size _ rfl) (Nat.ne_of_gt lt) (list_.push _) (by simpa using vals.strs) few fun h' t keep R => ?_
  have keep' : ∀ b o, s.heap.get? b = some o → h'.get? b = some o := fun b o old => keep b o (Nat.ne_of_lt (Heap.lt_size old)) (Heap.get?_push_of_some _ old)
  exact ⟨.ref _, upd H s.heap.objs.size (TxO X.prog X.w s.heap.objs.size (putAll [] xs)), I.laid keep' (Nat.le_refl _) R.ok, rfl, q _ (I.hok.fresh (Nat.le_refl _))⟩

/-! ### what requirements for one name come to -/
abbrev Bd := Verb × List Str
def anyV (v : Verb) (rs : List Row) : Bool := rs.any fun r => decide (r.vb = v)
def valsOf (v : Verb) (rs : List Row) : List Str := (rs.filter fun r => decide (r.vb = v)).map (·.vl)
def sortU (xs : List Str) : List Str := srt (putAll [] xs)
def boundOf (rs : List Row) : Option Bd :=
  if anyV .missing rs = true then (if (!(sortU (valsOf .is rs)).isEmpty || anyV .there rs) = true then none else some (.missing, []))
  else if (sortU (valsOf .is rs)).isEmpty = false then (if (decide (1 < (sortU (valsOf .is rs)).length) || decide ((sortU (valsOf .is rs)).headD "" ∈ sortU (valsOf .not rs))) = true then none else some (.is, sortU (valsOf .is rs)))
  else some (if anyV .there rs = true then .there else .not, sortU (valsOf .not rs))
def BdAt (H : Hp) (p : Addr) (b : Bd) : Prop := ∃ q, H p = some (.tup [.str (vT b.1), .ref q]) ∧ H q = some (.lst (b.2.map V.str))
theorem sortU_len (xs : List Str) : (sortU xs).length ≤ xs.length := by
  unfold sortU
  rw [(srt_perm _).length_eq]
  have := putAll_len xs []
  simpa using this
theorem sortU_mem {xs : List Str} {x : Str} : x ∈ sortU xs ↔ x ∈ xs := by
  unfold sortU
  rw [(srt_perm _).mem_iff, putAll_mem]; simp
theorem sortU_once (xs : List Str) : (sortU xs).Nodup := (srt_perm _).nodup_iff.mpr (putAll_once .nil)
theorem valsOf_len (v : Verb) (rs : List Row) : (valsOf v rs).length ≤ rs.length := by
  unfold valsOf; rw [List.length_map]; exact List.length_filter_le _ _
theorem vT_inj {a b : Verb} (h : vT a = vT b) : a = b := by cases a <;> cases b <;> first | rfl | exact absurd h (by decide +kernel)
theorem flat_strs {α : Type} (f : α → Str) (l : List α) : (l.map fun x => V.str (f x)).all flatV = true := by
  rw [List.all_map, List.all_eq_true]; exact fun _ _ => rfl
theorem in_strs {α : Type} (f : α → Str) (l : List α) (z : Str) : inV (.str z) (l.map fun x => V.str (f x)) = l.any fun x => decide (f x = z) := by
  unfold inV
  rw [List.any_map]
  congr 1
theorem in_words (v : Verb) (rs : List Row) : inV (.str (vT v)) (rs.map fun r => V.str (vT r.vb)) = anyV v rs := by
  rw [in_strs]
  unfold anyV
  congr 1
  funext r
  exact decide_eq_decide.mpr ⟨vT_inj, fun e => by rw [e]⟩
theorem in_list (z : Str) (l : List Str) : inV (.str z) (l.map V.str) = decide (z ∈ l) := by
  have e : inV (.str z) (l.map V.str) = l.any fun x => decide (x = z) := in_strs id l z
  rw [e]
  clear e
  induction l with
  | nil => rfl
  | cons y l more =>
    rw [List.any_cons, more]
    simp only [List.mem_cons, eq_comm (a := z) (b := y), Bool.decide_or]
theorem valsOf_snoc (v : Verb) (rs : List Row) (r : Row) : valsOf v (rs ++ [r]) = valsOf v rs ++ (if r.vb = v then [r.vl] else []) := by
  unfold valsOf
  rw [List.filter_append, List.map_append]
  congr 1
  by_cases e : r.vb = v <;> simp [e]
theorem iteE {c b : Bool} {A B : Prop} (e : c = b) (h1 : b = true → A) (h2 : b = false → B) : if c = true then A else B := by
  subst e; cases c with
  | true => exact h1 rfl
  | false => exact (if_neg Bool.false_ne_true).symm ▸ h2 rfl
/-- sorted({value for name, word, value in rows if word == ..}) -/
theorem sorted_vals {P : Program} {w : World} {K : PySem.W.Frag} {H : Hp} {L : Addr} {rs : List Row} {Q : VK} {x1 x2 x3 x4 x5 x6 : Option V} (v : Verb) (hR : RowsAt H L rs) (few : rs.length ≤ 30)
    (k : ∀ p H', Same H H' → H' p = some (.lst ((sortU (valsOf v rs)).map V.str)) → Q (.ref p) H') :
    tCB (rSortTx P w) (tCons (tScx P w (iList K (tVar 0)) (gTup K 3 (gCons (gName 4) (gCons (gName 5) (gCons (gName 6) gNil)))) (tTest (tOp rEq (tVar 5) (tC (.str (vT v))))) (tVar 6) [4, 5, 6]) tNil) [some (.ref L), x1, x2, x3, x4, x5, x6] H Q := by
  obtain ⟨ps, gL, hp⟩ := hR
  have lp := paired_len hp
  have many : ∀ i, (valsOf v (rs.take i)).length + 1 < scanBound := fun i => by
    have := valsOf_len v (rs.take i)
    rw [List.length_take] at this
    unfold scanBound; omega
  refine ⟨_, rfl, L, rfl, ⟨_, SqL.of gL⟩, fun D hD => ?_⟩
  refine scx_it (walk_list (xs := ps.map V.ref)) (fun i H' => Same H H' ∧ H' D = some (TxO P w D (putAll [] (valsOf v (rs.take i))))) ⟨Same.new hD, upd_same⟩ (fun i H' _ p => SqL.of (p.1 _ _ gL)) ?_ ?_
  · rintro i x H1 _ hi ⟨S1, gD⟩ ⟨rfl, hx⟩
    rw [List.getElem?_map] at hx
    obtain ⟨p, ep, rfl⟩ := Option.map_eq_some_iff.mp hx
    obtain ⟨r, er, hr1⟩ : ∃ r, rs[i]? = some r ∧ RowAt H p r := paired_at hp ep
    refine ⟨p, _, rfl, SqT.of (S1 _ _ hr1), rfl, _, _, rfl, _, _, rfl, _, _, rfl, rfl, rfl, ?_⟩
    refine ⟨_, rfl, rfl, _, rfl, ?_⟩
    rw [get_take er, valsOf_snoc]
    by_cases e : r.vb = v
    · rw [decide_eq_true (show V.str (vT r.vb) = V.str (vT v) by rw [e])]
      refine iteT ⟨_, rfl, r.vl, _, rfl, gD, ?_, fun b o hb => ?_, ?_⟩
      · have a := putAll_len (valsOf v (rs.take i)) []
        have b := many i
        simp only [List.length_nil] at a
        omega
      · rw [upd_ne (ne_of_none hb hD)]; exact S1 b o hb
      · rw [upd_same, if_pos e, putAll_snoc]
    · rw [decide_eq_false (show ¬ V.str (vT r.vb) = V.str (vT v) from fun z => e (vT_inj (by injection z))), if_neg e, List.append_nil]
      exact iteF ⟨S1, gD⟩
  · rintro H1 ⟨S1, gD⟩
    rw [List.length_map, lp, List.take_length] at gD
    have a := putAll_len (valsOf v rs) []
    have b := valsOf_len v rs
    simp only [List.length_nil] at a
    exact ⟨D, _, rfl, gD, by omega, fun p hp => k p _ (S1.trans (Same.new hp)) upd_same⟩
def sp_bound_of (K : PySem.W.Frag) : Sp := fun vs H Q _ => ∃ (L : Addr) (rs : List Row), vs = [.ref L] ∧ RowsAt H L rs ∧ rs.length ≤ 30 ∧ (boundOf rs = none → ∀ H', Same H H' → Q .non H') ∧
  ∀ (b : Bd) (p : Addr) (H' : Hp), boundOf rs = some b → Same H H' → BdAt H' p b → Q (.ref p) H'
theorem ok_bound_of {P : Program} {w : World} {K : PySem.W.Frag} {mg : Str → Option Value} {base : Heap} {fd : FuncData} (T : Txt K mg w) (F : FnP K "bound_of" s_bound_of [] fd) : FnOk P w K mg base CX0 1 (He.ga K "bound_of") fd ps_bound_of (sp_bound_of K) := by
  refine F.ok sc_bound_of (fun vs H Q E h => ?len) (fun cdv A outer s H vs Q E hr h => ?body)
  case len => obtain ⟨L, rs, rfl, ⟨ps, gL, hp⟩, hlen, k0, k1⟩ := h; rfl
  case body =>
  obtain ⟨L, rs, rfl, ⟨ps, gL, hp⟩, hlen, k0, k1⟩ := h
  have hu := hu_of hr
  refine ⟨_, PSs.nox (pss_cons (ps_setLc (i := 1) (own := [("name", 4), ("word", 5), ("value", 6)]) (g := gTup K 3 (gCons (gName 4) (gCons (gName 5) (gCons (gName 6) gNil)))) rfl sc_bound_of.nd rfl rfl (sw_true rfl rfl rfl (by decide +kernel)) (pi_list (pv 0)) (blkOk_by (own := [("name", 4), ("word", 5), ("value", 6)]) (N := N_bound_of) (sc := defScope s_bound_of) (by decide +kernel)) (fun _ _ _ _ _ => (pg_tup rfl (pgs_cons (pg_name (i := 4) sc_bound_of.nd rfl (Or.inl rfl) (Or.inr rfl)) (pgs_cons (pg_name (i := 5) sc_bound_of.nd rfl (Or.inl rfl) (Or.inr rfl)) (pgs_cons (pg_name (i := 6) sc_bound_of.nd rfl (Or.inl rfl) (Or.inr rfl)) pgs_nil))))) (fun _ _ _ _ _ => pts_nil) (fun _ _ _ _ _ => (pv 5)))
    (pss_cons (ps_set (i := 2) sc_bound_of.nd rfl (Or.inl rfl) (pe_callB (cr_sortTx rfl) (by rfl) T.n_sorted (by decide +kernel) (pa_cons (pe_scx (own := [("name", 4), ("word", 5), ("value", 6)]) (g := gTup K 3 (gCons (gName 4) (gCons (gName 5) (gCons (gName 6) gNil)))) rfl sc_bound_of.nd (pi_list (pv 0)) (blkOk_by (own := [("name", 4), ("word", 5), ("value", 6)]) (N := N_bound_of) (sc := defScope s_bound_of) (by decide +kernel)) (fun _ _ _ _ _ => (pg_tup rfl (pgs_cons (pg_name (i := 4) sc_bound_of.nd rfl (Or.inl rfl) (Or.inr rfl)) (pgs_cons (pg_name (i := 5) sc_bound_of.nd rfl (Or.inl rfl) (Or.inr rfl)) (pgs_cons (pg_name (i := 6) sc_bound_of.nd rfl (Or.inl rfl) (Or.inr rfl)) pgs_nil))))) (fun _ _ _ _ _ => (pts_one (pt_cmpR op_eq (pv 5) pe_str (nomark _)))) (fun _ _ _ _ _ => (pv 6))) pa_nil)))
    (pss_cons (ps_set (i := 3) sc_bound_of.nd rfl (Or.inl rfl) (pe_callB (cr_sortTx rfl) (by rfl) T.n_sorted (by decide +kernel) (pa_cons (pe_scx (own := [("name", 4), ("word", 5), ("value", 6)]) (g := gTup K 3 (gCons (gName 4) (gCons (gName 5) (gCons (gName 6) gNil)))) rfl sc_bound_of.nd (pi_list (pv 0)) (blkOk_by (own := [("name", 4), ("word", 5), ("value", 6)]) (N := N_bound_of) (sc := defScope s_bound_of) (by decide +kernel)) (fun _ _ _ _ _ => (pg_tup rfl (pgs_cons (pg_name (i := 4) sc_bound_of.nd rfl (Or.inl rfl) (Or.inr rfl)) (pgs_cons (pg_name (i := 5) sc_bound_of.nd rfl (Or.inl rfl) (Or.inr rfl)) (pgs_cons (pg_name (i := 6) sc_bound_of.nd rfl (Or.inl rfl) (Or.inr rfl)) pgs_nil))))) (fun _ _ _ _ _ => (pts_one (pt_cmpR op_eq (pv 5) pe_str (nomark _)))) (fun _ _ _ _ _ => (pv 6))) pa_nil)))
    (pss_cons (ps_if (pt_cmpR op_in_seq pe_str (pv 1) (by rfl)) (pss_one (ps_ret (pe_ifExp (PW.pt (pw_or (pt_truth (pv 2) (by intro _; rfl)) (pw_or1 (pt_cmpR op_in_seq pe_str (pv 1) (by rfl))))) pe_non (pe_tup (pa_cons pe_str (pa_cons (pe_lst pa_nil) pa_nil)))))) pss_nil)
    (pss_cons (ps_if (pt_truth (pv 2) (by intro _; rfl)) (pss_one (ps_ret (pe_ifExp (PW.pt (pw_or (pt_cmpR op_gt (pe_callB call_len_seq (by rfl) T.n_len (by decide +kernel) (pa_cons (pv 2) pa_nil)) pe_int (nomark _)) (pw_or1 (pt_cmpR op_in_seq (pe_ix ix_list (pv 2) pe_int (fun _ _ => rfl)) (pv 3) (by rfl))))) pe_non (pe_tup (pa_cons pe_str (pa_cons (pv 2) pa_nil)))))) pss_nil)
    (pss_one (ps_ret (pe_tup (pa_cons (pe_ifExp (pt_cmpR op_in_seq pe_str (pv 1) (by rfl)) pe_str pe_str) (pa_cons (pv 3) pa_nil)))))))))), ?_⟩
  have lp := paired_len hp
  refine ⟨_, rfl, L, rfl, ⟨_, SqL.of gL⟩, fun D hD => ?_⟩
  refine lc_list (K := K) (a := L) (xs := ps.map V.ref) (fun i H' => Same H H' ∧ H' D = some (.lst ((rs.take i).map fun r => V.str (vT r.vb)))) ⟨Same.new hD, upd_same⟩ (fun i H' _ p => SqL.of (p.1 _ _ gL)) ?_ ?_
  · rintro i x H1 hx ⟨S1, gD⟩
    rw [List.getElem?_map] at hx
    obtain ⟨p, ep, rfl⟩ := Option.map_eq_some_iff.mp hx
    obtain ⟨r, er, hr1⟩ : ∃ r, rs[i]? = some r ∧ RowAt H p r := paired_at hp ep
    refine ⟨p, _, rfl, SqT.of (S1 _ _ hr1), rfl, _, _, rfl, _, _, rfl, _, _, rfl, rfl, rfl, yes_ ?_⟩
    refine iteT ?_
    refine ⟨_, rfl, _, gD, small1000 (by rw [List.length_map, List.length_take]; omega), fun b o hb => ?_, ?_⟩
    · rw [upd_ne (ne_of_none hb hD)]; exact S1 b o hb
    · rw [upd_same, get_take er, List.map_append]; rfl
  rintro H1 ⟨S1, gD⟩
  rw [List.length_map, lp, List.take_length] at gD
  refine sorted_vals .is (rows_same S1 ⟨ps, gL, hp⟩) hlen fun pa H2 S2 ga => ?_
  refine sorted_vals .not (rows_same (S1.trans S2) ⟨ps, gL, hp⟩) hlen fun pe H3 S3 ge => ?_
  have gW := S3 _ _ (S2 _ _ gD)
  have gA := S3 _ _ ga
  have S13 := S1.trans (S2.trans S3)
  clear ga gD
  have la : (sortU (valsOf .is rs)).length ≤ 30 := Nat.le_trans (sortU_len _) (Nat.le_trans (valsOf_len _ _) hlen)
  refine ⟨_, rfl, D, _, rfl, .inl (SqL.of gW), rfl, flat_strs _ _, _, rfl, ?_⟩
  refine iteE (in_words .missing rs) (fun hm => ?_) (fun hm => ?_)
  · have bo : boundOf rs = if (!(sortU (valsOf .is rs)).isEmpty || anyV .there rs) = true then none else some (.missing, []) := by unfold boundOf; rw [if_pos hm]
    refine ⟨_, rfl, _, .inl ⟨_, SqL.of gA, rfl⟩, ?_⟩
    rw [List.isEmpty_map]
    cases ea : (sortU (valsOf .is rs)).isEmpty with
    | false => exact iteT (iteT (k0 (by rw [bo, ea]; rfl) H3 S13))
    | true =>
      refine iteF ⟨_, rfl, D, _, rfl, .inl (SqL.of gW), rfl, flat_strs _ _, _, rfl, ?_⟩
      refine iteE (in_words .there rs) (fun ht => ?_) (fun ht => ?_)
      · exact k0 (by rw [bo, ea, ht]; rfl) H3 S13
      · refine ⟨smallN (by show 0 ≤ 1000; decide), fun q hq => ⟨smallN (by show 2 ≤ 1000; decide), fun p hp' => ?_⟩⟩
        exact k1 (.missing, []) p _ (by rw [bo, ea, ht]; rfl) (S13.trans ((Same.new hq).trans (Same.new hp'))) ⟨q, upd_same, Same.new hp' _ _ upd_same⟩
  · have hm : ¬ anyV .missing rs = true := fun z => by rw [z] at hm; cases hm
    refine ⟨_, rfl, _, .inl ⟨_, SqL.of gA, rfl⟩, ?_⟩
    rw [List.isEmpty_map]
    cases ea : (sortU (valsOf .is rs)).isEmpty with
    | false =>
      have bo : boundOf rs = if (decide (1 < (sortU (valsOf .is rs)).length) || decide ((sortU (valsOf .is rs)).headD "" ∈ sortU (valsOf .not rs))) = true then none else some (.is, sortU (valsOf .is rs)) := by unfold boundOf; rw [if_neg hm, if_pos ea]
      obtain ⟨x, xs, ex⟩ : ∃ x xs, sortU (valsOf .is rs) = x :: xs := by
        cases e : sortU (valsOf .is rs) with
        | nil => rw [e] at ea; cases ea
        | cons x xs => exact ⟨x, xs, rfl⟩
      refine iteT ?_
      refine ⟨_, rfl, pa, _, rfl, .inl (SqL.of gA), _, _, rfl, rfl, _, rfl, ?_⟩
      refine iteE (b := decide (1 < (sortU (valsOf .is rs)).length)) (decide_eq_decide.mpr (by rw [List.length_map]; omega)) (fun h1 => ?_) (fun h1 => ?_)
      · exact iteT (k0 (by rw [bo, h1]; rfl) H3 S13)
      · have gA0 : (sortU (valsOf .is rs)).map V.str = .str x :: xs.map V.str := by rw [ex]; rfl
        refine ⟨_, rfl, pa, _, 0, .str x, rfl, rfl, SqL.of gA, (by rw [gA0]; exact atI_nat (j := 0) rfl), _, rfl, pe, _, rfl, .inl (SqL.of ge), rfl, flat_strs id _, _, rfl, ?_⟩
        refine iteE (in_list x _) (fun h2 => ?_) (fun h2 => ?_)
        · refine k0 ?_ H3 S13
          rw [bo, ex, List.headD_cons, h2, Bool.or_true]; rfl
        · refine ⟨_, rfl, smallN (by show 2 ≤ 1000; decide), fun p hp' => ?_⟩
          refine k1 (.is, sortU (valsOf .is rs)) p _ ?_ (S13.trans (Same.new hp')) ⟨pa, upd_same, Same.new hp' _ _ gA⟩
          rw [bo, h1]
          have hd : (sortU (valsOf .is rs)).headD "" = x := by rw [ex]; rfl
          rw [hd, h2]; rfl
    | true =>
      have bo : boundOf rs = some (if anyV .there rs = true then .there else .not, sortU (valsOf .not rs)) := by unfold boundOf; rw [if_neg hm, if_neg (by rw [ea]; decide)]
      refine iteF ⟨_, rfl, D, _, rfl, .inl (SqL.of gW), rfl, flat_strs _ _, _, rfl, ?_⟩
      refine iteE (in_words .there rs) (fun ht => ?_) (fun ht => ?_)
      · exact ⟨_, rfl, smallN (by show 2 ≤ 1000; decide), fun p hp' => k1 (.there, sortU (valsOf .not rs)) p _ (by rw [bo, ht]; rfl) (S13.trans (Same.new hp')) ⟨pe, upd_same, Same.new hp' _ _ ge⟩⟩
      · exact ⟨_, rfl, smallN (by show 2 ≤ 1000; decide), fun p hp' => k1 (.not, sortU (valsOf .not rs)) p _ (by rw [bo, ht]; rfl) (S13.trans (Same.new hp')) ⟨pe, upd_same, Same.new hp' _ _ ge⟩⟩

/-! ### list(text) -/
def rListS : List V → Hp → VK → Prop := fun vs H Q => ∃ z : Str, vs = [.str z] ∧ z.length ≤ 1000 ∧ ∀ p, H p = none → Q (.ref p) (upd H p (.lst ((tl z).map fun c => V.str ⟨#[c]⟩)))
theorem vals_at : ∀ {xs : List V} {us : List Value}, xs.length = us.length → (∀ (i : Nat) (u : Value) (x : V), us[i]? = some u → xs[i]? = some x → RelV x u) → Vals xs us
  | [], [], _, _ => .nil
  | x :: xs, u :: us, l, h => .cons (h 0 u x rfl rfl) (vals_at (by simpa using l) fun i u x hu hx => h (i + 1) u x (by simpa using hu) (by simpa using hx))
  | [], _ :: _, l, _ => nomatch l
  | _ :: _, [], l, _ => nomatch l
theorem cr_listS {X : Cx} (calm : X.calm = true) : CallR X (.type "list") rListS := fun pins s σ H vs us Q I rel ⟨z, e, short, q⟩ => by
  subst e
  obtain ⟨u, rfl, ru⟩ := vals1 rel
  obtain ⟨t, rfl⟩ := ru
  have big : z.cps.size ≤ sizeLine := smallN short
  refine call_list_str (I.ok.hd calm) z t (fun h' tk acc c keep laid items => ?_) big
  have vals : Vals ((tl z).map fun c => V.str ⟨#[c]⟩) acc.toList := by
    refine vals_at (by rw [List.length_map, ← size_tl, Array.length_toList]; exact items.1.symm) fun i v x hv hx => ?_
    rw [Array.getElem?_toList] at hv
    obtain ⟨c, u, ec, rfl⟩ := items.2 i v hv
    rw [List.getElem?_map, take_at ec] at hx
    cases hx
    exact ⟨u, rfl⟩
  exact ⟨.ref _, upd H s.heap.objs.size (.lst ((tl z).map fun c => V.str ⟨#[c]⟩)), I.laid keep (Nat.le_refl _) ⟨by rw [List.length_map, ← size_tl]; exact big, acc.toList, c, vals, by rw [Array.toArray_toList]; exact laid⟩, rfl, q _ (I.hok.fresh (Nat.le_refl _))⟩
/-! ### bounds by names -/
def BsD (bs : List (Str × Bd)) (ps : List Addr) : List (Key × V) := List.zipWith (fun b p => (Sum.inr b.1, V.ref p)) bs ps
def BsAt (H : Hp) (d : Addr) (bs : List (Str × Bd)) : Prop := ∃ ps, H d = some (.dK (BsD bs ps)) ∧ Paired (BdAt H) ps (bs.map (·.2))
def needV (v : Verb) : Bool := match v with | .is => true | .there => true | _ => false
def neededB (bs : List (Str × Bd)) : List (Str × Bd) := bs.filter fun b => needV b.2.1
def neededL (bs : List (Str × Bd)) : List Str := (neededB bs).map (·.1)
theorem in_need (v : Verb) : inV (.str (vT v)) [.str "is", .str "there"] = needV v := by cases v <;> decide +kernel
theorem bsD_len {bs : List (Str × Bd)} {ps : List Addr} (h : ps.length = bs.length) : (BsD bs ps).length = bs.length := by unfold BsD; rw [List.length_zipWith, h, Nat.min_self]
theorem bsD_at {bs : List (Str × Bd)} {ps : List Addr} {i : Nat} {b : Str × Bd} {p : Addr} (h1 : bs[i]? = some b) (h2 : ps[i]? = some p) : (BsD bs ps)[i]? = some (Sum.inr b.1, V.ref p) := by
  unfold BsD; rw [List.getElem?_zipWith, h1, h2]
theorem bd_same {H H' : Hp} {p : Addr} {b : Bd} (s : Same H H') (h : BdAt H p b) : BdAt H' p b := have ⟨q, h1, h2⟩ := h; ⟨q, s _ _ h1, s _ _ h2⟩
theorem bs_same {H H' : Hp} {d : Addr} {bs : List (Str × Bd)} (s : Same H H') (h : BsAt H d bs) : BsAt H' d bs := have ⟨ps, h1, h2⟩ := h; ⟨ps, s _ _ h1, Paired.mono (fun _ _ => bd_same s) h2⟩
def sp_needed (K : PySem.W.Frag) : Sp := fun vs H Q _ => ∃ (d : Addr) (bs : List (Str × Bd)), vs = [.ref d] ∧ BsAt H d bs ∧ bs.length ≤ 100 ∧ ∀ p H', Same H H' → H' p = some (.lst ((neededL bs).map V.str)) → Q (.ref p) H'
theorem neededL_snoc (bs : List (Str × Bd)) (b : Str × Bd) : neededL (bs ++ [b]) = neededL bs ++ (if needV b.2.1 = true then [b.1] else []) := by
  unfold neededL neededB
  rw [List.filter_append, List.map_append]
  congr 1
  cases e : needV b.2.1 <;> simp [e]
theorem neededL_len (bs : List (Str × Bd)) : (neededL bs).length ≤ bs.length := by unfold neededL neededB; rw [List.length_map]; exact List.length_filter_le _ _
theorem ok_needed {P : Program} {w : World} {K : PySem.W.Frag} {mg : Str → Option Value} {base : Heap} {fd : FuncData} (T : Txt K mg w) (F : FnP K "needed" s_needed [] fd) : FnOk P w K mg base CX0 1 (He.ga K "needed") fd ps_needed (sp_needed K) := by
  refine F.ok sc_needed (fun vs H Q E h => ?len) (fun cdv A outer s H vs Q E hr h => ?body)
  case len => obtain ⟨d, bs, rfl, ⟨ps, gd, hp⟩, hlen, k⟩ := h; rfl
  case body =>
  obtain ⟨d, bs, rfl, ⟨ps, gd, hp⟩, hlen, k⟩ := h
  have hu := hu_of hr
  refine ⟨_, PSs.nox (pss_one (ps_ret (pe_lock (pe_lc (own := [("name", 1), ("word", 2), ("values", 3)]) (g := gTup K 2 (gCons (gName 1) (gCons (gTup K 2 (gCons (gName 2) (gCons (gName 3) gNil))) gNil))) rfl sc_needed.nd (pi_items (pv 0)) (blkOk_by (own := [("name", 1), ("word", 2), ("values", 3)]) (N := N_needed) (sc := defScope s_needed) (by decide +kernel)) (fun _ _ _ _ _ => (pg_tup rfl (pgs_cons (pg_name (i := 1) sc_needed.nd rfl (Or.inl rfl) (Or.inr rfl)) (pgs_cons (pg_tup rfl (pgs_cons (pg_name (i := 2) sc_needed.nd rfl (Or.inl rfl) (Or.inr rfl)) (pgs_cons (pg_name (i := 3) sc_needed.nd rfl (Or.inl rfl) (Or.inr rfl)) pgs_nil))) pgs_nil)))) (fun _ _ _ _ _ => (pts_one (pt_cmpR (show OpR _ (compareOp .In) (rIn K false) from op_in_seq) (pv 2) (pe_tup (pa_cons pe_str (pa_cons pe_str pa_nil))) (by rfl)))) (fun _ _ _ _ _ => (pv 1)))))), ?_⟩
  have lp : ps.length = bs.length := by rw [paired_len hp, List.length_map]
  have ld := bsD_len lp
  refine ⟨d, _, gd, True.intro, fun od => ?_⟩
  have gF : (upd H d (.frz od (.dK (BsD bs ps)))) d = _ := upd_same
  refine ⟨_, rfl, d, od, BsD bs ps, rfl, gF, fun D hD => ?_⟩
  have nD : D ≠ d := fun z => by rw [z, gF] at hD; cases hD
  refine lc_it walk_items (fun i H' => Same (upd H d (.frz od (.dK (BsD bs ps)))) H' ∧ H' D = some (.lst ((neededL (bs.take i)).map V.str))) ⟨Same.new hD, upd_same⟩ (fun i H' _ p => p.1 _ _ gF) ?_ ?_
  · rintro i x H1 H2 hi ⟨S1, gD⟩ ⟨T, x1, y1, rfl, hT, rfl, h1, h2⟩
    obtain ⟨b, hb⟩ : ∃ b, bs[i]? = some b := ⟨_, List.getElem?_eq_getElem (by omega)⟩
    obtain ⟨p, ep⟩ : ∃ p, ps[i]? = some p := ⟨_, List.getElem?_eq_getElem (by omega)⟩
    obtain ⟨b', hb', q, hp1, hq1⟩ := paired_at hp ep
    obtain rfl : b' = b.2 := by rw [List.getElem?_map, hb] at hb'; exact (Option.some.inj hb').symm
    have np : p ≠ d := ne_of hp1 gd fun z => by cases z
    have hp2 : upd H d (.frz od (.dK (BsD bs ps))) p = _ := (upd_ne np).trans hp1
    dsimp only at h1 h2
    rw [bsD_at hb ep] at h1 h2
    cases h1
    cases h2
    have S2 := Same.new (u := .tup [kV (Sum.inr b.1), V.ref p]) hT
    have gT : (upd H1 T (.tup [kV (Sum.inr b.1), V.ref p])) T = _ := upd_same
    generalize upd H1 T (.tup [kV (Sum.inr b.1), V.ref p]) = H2 at S2 gT ⊢
    refine ⟨T, _, rfl, SqT.of gT, rfl, _, _, rfl, _, _, rfl, p, _, rfl, SqT.of (S2 _ _ (S1 _ _ hp2)), rfl, _, _, rfl, _, _, rfl, rfl, rfl, rfl, ?_⟩
    refine ⟨_, rfl, smallN (by show 2 ≤ 1000; decide), fun t ht => ⟨t, _, rfl, .inr (SqT.of upd_same), rfl, rfl, _, rfl, ?_⟩⟩
    have S3 := S1.trans (S2.trans (Same.new (u := .tup [.str "is", .str "there"]) ht))
    have gD3 := Same.new (u := .tup [.str "is", .str "there"]) ht _ _ (S2 _ _ gD)
    rw [get_take hb, neededL_snoc]
    refine iteE (in_need b.2.1) (fun e => ?_) (fun e => ?_)
    · refine ⟨_, rfl, _, gD3, small1000 ?_, fun a o ha => ?_, ?_⟩
      · rw [List.length_map]; have := neededL_len (bs.take i); rw [List.length_take] at this; omega
      · rw [upd_ne (ne_of_none ha hD)]; exact S3 _ _ ha
      · rw [upd_same, e, List.map_append]; rfl
    · rw [e]
      exact ⟨S3, by rw [gD3, if_neg (by decide), List.append_nil]⟩
  · rintro H' ⟨S1, gD⟩
    rw [ld, List.take_length] at gD
    refine ⟨S1 _ _ gF, k D _ (fun a o ha => ?_) (by rw [upd_ne nD]; exact gD)⟩
    by_cases e : a = d
    · subst e; rw [gd] at ha; cases ha; exact upd_same
    · rw [upd_ne e]; exact S1 _ _ (by rw [upd_ne e]; exact ha)
/-- the rows for a name -/
def ownR (rs : List Row) (n : Str) : List Row := rs.filter fun r => decide (r.nm = n)
def IsB (rs : List Row) (bs : List (Str × Bd)) : Prop := bs.map (·.1) = sortU (rs.map (·.nm)) ∧ ∀ b ∈ bs, boundOf (ownR rs b.1) = some b.2
def NoB (rs : List Row) : Prop := (∃ n ∈ rs.map (·.nm), boundOf (ownR rs n) = none) ∨ ∃ bs, IsB rs bs ∧ 8 < (neededL bs).length
def sp_bounds_of (K : PySem.W.Frag) : Sp := fun vs H Q _ => ∃ (L : Addr) (rs : List Row), vs = [.ref L] ∧ RowsAt H L rs ∧ rs.length ≤ 30 ∧ (NoB rs → ∀ H', Same H H' → Q .non H') ∧
  ∀ (bs : List (Str × Bd)) (d : Addr) (H' : Hp), IsB rs bs → (neededL bs).length ≤ 8 → Same H H' → H d = none → BsAt H' d bs → Q (.ref d) H'
theorem ownR_snoc (rs : List Row) (r : Row) (n : Str) : ownR (rs ++ [r]) n = ownR rs n ++ (if r.nm = n then [r] else []) := by
  unfold ownR; rw [List.filter_append]; congr 1
  by_cases e : r.nm = n <;> simp [e]
theorem ownR_len (rs : List Row) (n : Str) : (ownR rs n).length ≤ rs.length := List.length_filter_le _ _
theorem bsD_none : ∀ {bs : List (Str × Bd)} {ps : List Addr} {n : Str}, n ∉ bs.map (·.1) → valV (BsD bs ps) (Sum.inr n) = none
  | [], _, _, _ => rfl
  | _ :: _, [], _, _ => rfl
  | b :: bs, p :: ps, n, h => by
    show valV ((Sum.inr b.1, V.ref p) :: BsD bs ps) (Sum.inr n) = none
    rw [valV_neg (p := (Sum.inr b.1, V.ref p)) (fun e => h (by injection e with e; rw [← e]; simp))]
    exact bsD_none fun z => h (by rw [List.map_cons]; exact List.mem_cons_of_mem _ z)
theorem bsD_snoc {bs : List (Str × Bd)} {ps : List Addr} (h : ps.length = bs.length) (n : Str) (b : Bd) (p : Addr) : BsD bs ps ++ [(Sum.inr n, V.ref p)] = BsD (bs ++ [(n, b)]) (ps ++ [p]) := by
  unfold BsD; rw [List.zipWith_append h.symm]; rfl
theorem ok_bounds_of {P : Program} {w : World} {K : PySem.W.Frag} {mg : Str → Option Value} {base : Heap} {fd : FuncData} (T : Txt K mg w) (F : FnP K "bounds_of" s_bounds_of [] fd) : FnOk P w K mg base CX0 2 (He.ga K "bounds_of") fd ps_bounds_of (sp_bounds_of K) := by
  obtain ⟨fd_bound_of, F_bound_of⟩ := T.d_bound_of
  have G_bound_of := ok_bound_of (P := P) (w := w) (base := base) T F_bound_of
  have k_bound_of := F_bound_of.kp
  have b_bound_of := bi_bound_of F_bound_of
  obtain ⟨fd_needed, F_needed⟩ := T.d_needed
  have G_needed := ok_needed (P := P) (w := w) (base := base) T F_needed
  have k_needed := F_needed.kp
  have b_needed := bi_needed F_needed
  obtain ⟨t_MOST_LABELS, h_MOST_LABELS⟩ := T.c_MOST_LABELS
  refine F.ok sc_bounds_of (fun vs H Q E h => ?len) (fun cdv A outer s H vs Q E hr h => ?body)
  case len => obtain ⟨L, rs, rfl, ⟨ps, gL, hp⟩, hlen, k0, k1⟩ := h; rfl
  case body =>
  obtain ⟨L, rs, rfl, ⟨ps, gL, hp⟩, hlen, k0, k1⟩ := h
  have hu := hu_of hr
  refine ⟨_, PSs.nox (pss_cons (ps_set (i := 1) sc_bounds_of.nd rfl (Or.inl rfl) pe_dnewK)
    (pss_cons (ps_for PassesOwn.never rfl (pi_list (pe_callB (cr_sortTx rfl) (by rfl) T.n_sorted (by decide +kernel) (pa_cons (pe_scx (own := [("row", 4)]) rfl sc_bounds_of.nd (pi_list (pv 0)) (blkOk_by (own := [("row", 4)]) (N := N_bounds_of) (sc := defScope s_bounds_of) (by decide +kernel)) (fun _ _ _ _ _ => (pg_name (i := 4) sc_bounds_of.nd rfl (Or.inl rfl))) (fun _ _ _ _ _ => pts_nil) (fun _ _ _ _ _ => (pe_ix (show IxR _ (rIxT K) from ix_tup) (pv 4) pe_int (fun _ _ => rfl)))) pa_nil))) (pg_name (i := 2) sc_bounds_of.nd rfl (Or.inr rfl))
      (pss_cons (ps_set (i := 3) sc_bounds_of.nd rfl (Or.inl rfl) (pe_call G_bound_of (hr.mono (by first | decide | omega)) rfl T.g_bound_of k_bound_of b_bound_of .nil pass0 (pa_cons (pe_lc (own := [("row", 4)]) rfl sc_bounds_of.nd (pi_list (pv 0)) (blkOk_by (own := [("row", 4)]) (N := N_bounds_of) (sc := defScope s_bounds_of) (by decide +kernel)) (fun _ _ _ _ _ => (pg_name (i := 4) sc_bounds_of.nd rfl (Or.inl rfl))) (fun _ _ _ _ _ => (pts_one (pt_cmpR op_eq (pe_ix (show IxR _ (rIxT K) from ix_tup) (pv 4) pe_int (fun _ _ => rfl)) (pv 2) (nomark _)))) (fun _ _ _ _ _ => (pv 4))) pa_nil)))
        (pss_cons (ps_if (pt_cmpR op_isN (pv 3) pe_non (nomark _)) (pss_one (ps_ret pe_non)) pss_nil)
        (pss_one (ps_dput hu (pv 1) (pv 2) (pv 3) rfl)))))
    (pss_one (ps_ret (pe_ifExp (pt_cmpR op_le (pe_callB call_len_seq (by rfl) T.n_len (by decide +kernel) (pa_cons (pe_call G_needed (hr.mono (by first | decide | omega)) rfl T.g_needed k_needed b_needed .nil pass0 (pa_cons (pv 1) pa_nil)) pa_nil)) (pe_glob (v := .int 8) rfl h_MOST_LABELS ⟨_, rfl⟩) (nomark _)) (pv 1) pe_non))))), ?_⟩
  have lp := paired_len hp
  intro F hF
  have SF := Same.new (u := .dK []) hF
  have gF0 : (upd H F (.dK [])) F = _ := upd_same
  have freeF : H F = none := hF
  generalize upd H F (.dK []) = H0 at SF gF0 ⊢
  refine ⟨_, rfl, L, rfl, ⟨_, SqL.of (SF _ _ gL)⟩, fun D hD => ?_⟩
  refine scx_it (walk_list (xs := ps.map V.ref)) (fun i H' => Same H0 H' ∧ H' D = some (TxO P w D (putAll [] ((rs.take i).map (·.nm))))) ⟨Same.new hD, upd_same⟩ (fun i H' _ p => SqL.of (p.1 _ _ (SF _ _ gL))) ?_ ?_
  · rintro i x H1 _ hi ⟨S1, gD⟩ ⟨rfl, hx⟩
    rw [List.getElem?_map] at hx
    obtain ⟨p, ep, rfl⟩ := Option.map_eq_some_iff.mp hx
    obtain ⟨r, er, hr1⟩ : ∃ r, rs[i]? = some r ∧ RowAt H p r := paired_at hp ep
    refine ⟨rfl, yes_ (iteT ?_)⟩
    refine ⟨_, rfl, p, _, 0, .str r.nm, rfl, rfl, SqT.of (S1 _ _ (SF _ _ hr1)), rfl, r.nm, _, rfl, gD, ?_, fun b o hb => ?_, ?_⟩
    · have a := putAll_len ((rs.take i).map (·.nm)) []
      rw [List.length_map, List.length_take, List.length_nil] at a
      unfold scanBound; omega
    · rw [upd_ne (ne_of_none hb hD)]; exact S1 b o hb
    · rw [upd_same, get_take er, List.map_append, List.map_cons, List.map_nil, putAll_snoc]; rfl
  rintro H1 ⟨S1, gD⟩
  rw [List.length_map, lp, List.take_length] at gD
  have many := putAll_len (rs.map (·.nm)) []
  rw [List.length_map, List.length_nil] at many
  refine ⟨D, _, rfl, gD, by omega, fun pN hN => ?_⟩
  have once : (sortU (rs.map (·.nm))).Nodup := sortU_once _
  have mem : ∀ n ∈ sortU (rs.map (·.nm)), n ∈ rs.map (·.nm) := fun n h => sortU_mem.mp h
  have lN : (sortU (rs.map (·.nm))).length ≤ 30 := by have := sortU_len (rs.map (·.nm)); rw [List.length_map] at this; omega
  have eN : srt (putAll [] (rs.map (·.nm))) = sortU (rs.map (·.nm)) := rfl
  have iB : ∀ bs, IsB rs bs = (bs.map (·.1) = sortU (rs.map (·.nm)) ∧ ∀ b ∈ bs, boundOf (ownR rs b.1) = some b.2) := fun _ => rfl
  rw [eN]
  generalize sortU (rs.map (·.nm)) = ns at once mem lN iB ⊢
  have S2 := S1.trans (Same.new (u := .lst (ns.map V.str)) hN)
  have gN : (upd H1 pN (.lst (ns.map V.str))) pN = _ := upd_same
  generalize upd H1 pN (.lst (ns.map V.str)) = H2 at S2 gN ⊢
  refine ⟨pN, rfl, ⟨_, SqL.of gN⟩, for_list (K := K) (a := pN) (xs := ns.map V.str) (fun i σ H' => ∃ (v2 v3 v4 : Option V) (bs : List (Str × Bd)) (qs : List Addr), σ = [some (.ref L), some (.ref F), v2, v3, v4] ∧ Same H H' ∧ H' pN = some (.lst (ns.map V.str)) ∧ H' F = some (.dK (BsD bs qs)) ∧
      Paired (BdAt H') qs (bs.map (·.2)) ∧ bs.map (·.1) = ns.take i ∧ ∀ b ∈ bs, boundOf (ownR rs b.1) = some b.2)
    ⟨_, _, _, [], [], rfl, SF.trans S2, gN, S2 _ _ gF0, .nil, rfl, fun b hb => nomatch hb⟩ (fun i σ H' _ ⟨_, _, _, _, _, _, _, g, _⟩ => SqL.of g) ?_ ?_⟩
  · rintro i x σ H3 hx ⟨v2, v3, v4, bs, qs, rfl, S3, g3N, g3F, hq, hns, hbs⟩
    rw [List.getElem?_map] at hx
    obtain ⟨n, en, rfl⟩ := Option.map_eq_some_iff.mp hx
    have lq : qs.length = bs.length := by rw [paired_len hq, List.length_map]
    have lb : bs.length ≤ 30 := by
      have := congrArg List.length hns
      rw [List.length_map, List.length_take] at this; omega
    have nF : F ≠ pN := ne_of g3F g3N fun z => by cases z
    refine ⟨_, rfl, L, rfl, ⟨_, SqL.of (S3 _ _ gL)⟩, fun D2 hD2 => ?_⟩
    refine lc_list (K := K) (a := L) (xs := ps.map V.ref) (fun j H' => Same H3 H' ∧ ∃ qs2 : List Addr, H' D2 = some (.lst (qs2.map V.ref)) ∧ Paired (RowAt H) qs2 (ownR (rs.take j) n)) ⟨Same.new hD2, [], upd_same, by rw [List.take_zero]; exact .nil⟩ (fun j H' _ p => SqL.of (p.1 _ _ (S3 _ _ gL))) ?_ ?_
    · rintro j x H4 hx ⟨S4, qs2, g4, hp4⟩
      rw [List.getElem?_map] at hx
      obtain ⟨p, ep, rfl⟩ := Option.map_eq_some_iff.mp hx
      obtain ⟨r, er, hr1⟩ : ∃ r, rs[j]? = some r ∧ RowAt H p r := paired_at hp ep
      refine ⟨rfl, _, rfl, p, _, 0, .str r.nm, rfl, rfl, SqT.of (S4 _ _ (S3 _ _ hr1)), rfl, _, rfl, rfl, _, rfl, ?_⟩
      rw [get_take er, ownR_snoc]
      by_cases e : r.nm = n
      · rw [decide_eq_true (show V.str r.nm = V.str n by rw [e]), if_pos e]
        refine iteT ⟨_, rfl, _, g4, small1000 ?_, fun b o hb => ?_, qs2 ++ [p], ?_, paired_snoc hr1 hp4⟩
        · rw [List.length_map, paired_len hp4]
          have := ownR_len (rs.take j) n
          rw [List.length_take] at this; omega
        · rw [upd_ne (ne_of_none hb hD2)]; exact S4 b o hb
        · rw [upd_same, List.map_append]; rfl
      · rw [decide_eq_false (show ¬ V.str r.nm = V.str n from fun z => e (by injection z)), if_neg e, List.append_nil]
        exact iteF ⟨S4, qs2, g4, hp4⟩
    rintro H4 ⟨S4, qs2, g4, hp4⟩
    rw [List.length_map, lp, List.take_length] at hp4
    have S34 := S3.trans S4
    refine ⟨D2, ownR rs n, rfl, ⟨qs2, g4, Paired.mono (fun _ _ => S34 _ _) hp4⟩, Nat.le_trans (ownR_len _ _) hlen, fun none_ H5 S5 => ?_, fun b p H5 eb S5 hb => ?_⟩
    · refine ⟨_, rfl, rfl, _, rfl, iteT (k0 (.inl ⟨n, mem n (mem_at en), none_⟩) H5 (S34.trans S5))⟩
    · refine ⟨_, rfl, rfl, _, rfl, iteF ?_⟩
      have g5F := S5 _ _ (S4 _ _ g3F)
      have new : n ∉ bs.map (·.1) := by
        rw [hns]
        intro z
        obtain ⟨j, hj⟩ := List.mem_iff_getElem?.mp z
        rw [List.getElem?_take] at hj
        split at hj
        · rename_i lt
          exact absurd ((List.getElem?_inj (lt_at hj) once).mp (hj.trans en.symm)) (Nat.ne_of_lt lt)
        · cases hj
      refine ⟨_, rfl, _, rfl, _, rfl, F, _, rfl, DPut.k (k := Sum.inr n) g5F (small1000 (by rw [bsD_len lq]; omega)), ?_⟩
      rw [putK_new _ (bsD_none new), bsD_snoc lq n b p]
      have ok : ∀ (a : Addr) (c : Bd), BdAt H5 a c → BdAt (upd H5 F (.dK (BsD (bs ++ [(n, b)]) (qs ++ [p])))) a c := fun a c ⟨q, h1, h2⟩ => ⟨q, by rw [upd_ne (ne_of h1 g5F fun z => by cases z)]; exact h1, by rw [upd_ne (ne_of h2 g5F fun z => by cases z)]; exact h2⟩
      refine ⟨_, _, _, bs ++ [(n, b)], qs ++ [p], rfl, fun a o ha => ?_, ?_, upd_same, ?_, ?_, ?_⟩
      · rw [upd_ne (ne_of_none ha freeF)]; exact S5 _ _ (S34 _ _ ha)
      · rw [upd_ne nF.symm]; exact S5 _ _ (S4 _ _ g3N)
      · rw [List.map_append]
        exact paired_snoc (ok _ _ hb) (Paired.mono (fun a c h => ok a c (bd_same (S4.trans S5) h)) hq)
      · rw [List.map_append, hns, get_take en]; rfl
      · intro c hc
        rcases List.mem_append.mp hc with hc | hc
        · exact hbs c hc
        · rw [List.mem_singleton.mp hc]; exact eb
  · rintro σ H3 ⟨v2, v3, v4, bs, qs, rfl, S3, g3N, g3F, hq, hns, hbs⟩
    rw [List.length_map, List.take_length] at hns
    have lb : bs.length ≤ 30 := by
      have := congrArg List.length hns
      rw [List.length_map] at this; omega
    have is_ : IsB rs bs := by rw [iB]; exact ⟨hns, hbs⟩
    refine ⟨_, rfl, F, bs, rfl, ⟨qs, g3F, hq⟩, by omega, fun p H4 S4 gp => ⟨p, _, rfl, .inl (SqL.of gp), _, _, rfl, rfl, _, rfl, ?_⟩⟩
    refine iteE (b := decide ((neededL bs).length ≤ 8)) (decide_eq_decide.mpr (by rw [List.length_map]; omega)) (fun h => ?_) (fun h => ?_)
    · exact ⟨_, rfl, k1 bs F H4 is_ (of_decide_eq_true h) (S3.trans S4) freeF (bs_same S4 ⟨qs, g3F, hq⟩)⟩
    · exact k0 (.inr ⟨bs, is_, by have := of_decide_eq_false h; omega⟩) H4 (S3.trans S4)
/-! ### the least labels -/
def cands : List Str := "" :: (tl smallT).map fun c => ⟨#[c]⟩
def freeT (vals : List Str) : Str := (cands.filter fun c => !decide (c ∈ vals)).headD ""
def pickT (b : Bd) : Str := match b.1 with | .is => b.2.headD "" | _ => freeT b.2
def labelsF (bs : List (Str × Bd)) : List (Str × Str) := (neededB bs).map fun b => (b.1, pickT b.2)
theorem cands_len : cands.length = 27 := by decide +kernel
theorem cands_once : cands.Nodup := by decide +kernel
theorem cands_ok : (cands.all fun c => lvalB c && decide (c.length ≤ 1)) = true := by decide +kernel
theorem within_len : ∀ {l ks : List Str}, l.Nodup → (∀ x ∈ l, x ∈ ks) → l.length ≤ ks.length
  | [], _, _, _ => Nat.zero_le _
  | x :: r, ks, nd, sub => by
    have ⟨nx, nr⟩ := List.nodup_cons.mp nd
    have le := within_len nr fun y hy => (List.mem_erase_of_ne fun z : y = x => nx (z ▸ hy)).mpr (sub y (List.mem_cons_of_mem _ hy))
    have p := (List.perm_cons_erase (sub x List.mem_cons_self)).length_eq
    simp only [List.length_cons] at p ⊢
    omega
/-- of so few values one is free -/
theorem free_some {vals : List Str} (h : vals.length ≤ 26) : ∃ c cs, (cands.filter fun c => !decide (c ∈ vals)) = c :: cs ∧ freeT vals = c ∧ c ∈ cands ∧ c ∉ vals := by
  cases e : cands.filter fun c => !decide (c ∈ vals) with
  | nil =>
    exfalso
    have sub : ∀ c ∈ cands, c ∈ vals := fun c hc => by
      have q := List.filter_eq_nil_iff.mp e c hc
      simpa using q
    have := within_len cands_once sub
    rw [cands_len] at this
    omega
  | cons c cs =>
    have hc : c ∈ cands.filter fun c => !decide (c ∈ vals) := by rw [e]; exact List.mem_cons_self
    obtain ⟨h1, h2⟩ := List.mem_filter.mp hc
    exact ⟨c, cs, rfl, by unfold freeT; rw [e]; rfl, h1, by simpa using h2⟩
def sp_labels_for (K : PySem.W.Frag) : Sp := fun vs H Q _ => ∃ (d : Addr) (bs : List (Str × Bd)), vs = [.ref d] ∧ BsAt H d bs ∧ bs.length ≤ 100 ∧ (bs.map (·.1)).Nodup ∧ (∀ b ∈ bs, b.2.2.length ≤ 26 ∧ (b.2.1 = .is → b.2.2 ≠ [])) ∧
  ∀ p H', Same H H' → H p = none → H' p = some (.dK (labD (labelsF bs))) → Q (.ref p) H'
theorem bsD_val : ∀ {bs : List (Str × Bd)} {ps : List Addr} {i : Nat} {b : Str × Bd} {p : Addr}, (bs.map (·.1)).Nodup → bs[i]? = some b → ps[i]? = some p → valV (BsD bs ps) (Sum.inr b.1) = some (.ref p)
  | [], _, _, _, _, _, h, _ => by simp at h
  | _ :: _, [], _, _, _, _, _, h => by simp at h
  | c :: bs, q :: ps, 0, b, p, _, h1, h2 => by
    obtain rfl : c = b := by simpa using h1
    obtain rfl : q = p := by simpa using h2
    exact valV_pos rfl
  | c :: bs, q :: ps, i + 1, b, p, nd, h1, h2 => by
    rw [List.map_cons, List.nodup_cons] at nd
    have h1' : bs[i]? = some b := by simpa using h1
    show valV ((Sum.inr c.1, V.ref q) :: BsD bs ps) (Sum.inr b.1) = _
    rw [valV_neg (p := (Sum.inr c.1, V.ref q)) (fun e => nd.1 (by injection e with e; rw [e]; exact List.mem_map_of_mem (mem_at h1')))]
    exact bsD_val nd.2 h1' (by simpa using h2)
theorem ok_labels_for {P : Program} {w : World} {K : PySem.W.Frag} {mg : Str → Option Value} {base : Heap} {fd : FuncData} (T : Txt K mg w) (F : FnP K "labels_for" s_labels_for [] fd) : FnOk P w K mg base CX0 2 (He.ga K "labels_for") fd ps_labels_for (sp_labels_for K) := by
  obtain ⟨fd_needed, F_needed⟩ := T.d_needed
  have G_needed := ok_needed (P := P) (w := w) (base := base) T F_needed
  have k_needed := F_needed.kp
  have b_needed := bi_needed F_needed
  obtain ⟨t_SMALL, h_SMALL⟩ := T.c_SMALL
  refine F.ok sc_labels_for (fun vs H Q E h => ?len) (fun cdv A outer s H vs Q E hr h => ?body)
  case len => obtain ⟨d, bs, rfl, ⟨ps, gd, hp⟩, hlen, nd, hv, k⟩ := h; rfl
  case body =>
  obtain ⟨d, bs, rfl, ⟨ps, gd, hp⟩, hlen, nd, hv, k⟩ := h
  have hu := hu_of hr
  refine ⟨_, PSs.nox (pss_cons (ps_set (i := 1) sc_labels_for.nd rfl (Or.inl rfl) pe_dnewK)
    (pss_cons (ps_for PassesOwn.never rfl (pi_list (pe_call G_needed (hr.mono (by first | decide | omega)) rfl T.g_needed k_needed b_needed .nil pass0 (pa_cons (pv 0) pa_nil))) (pg_name (i := 2) sc_labels_for.nd rfl (Or.inl rfl))
      (pss_cons (ps_asg (pe_dget hu (pv 0) (pv 2) (fun _ _ => rfl)) (pg_tup rfl (pgs_cons (pg_name (i := 3) sc_labels_for.nd rfl (Or.inl rfl)) (pgs_cons (pg_name (i := 4) sc_labels_for.nd rfl (Or.inr rfl)) pgs_nil))))
        (pss_cons (ps_setLc (i := 5) (own := [("text", 6)]) rfl sc_labels_for.nd rfl rfl (sw_true rfl rfl rfl (by decide +kernel)) (pi_list (pe_op op_cat (pe_lst (pa_cons pe_str pa_nil)) (pe_callTy (cr_listS rfl) (by rfl) T.n_list (by decide +kernel) (pa_cons (pe_glob (v := .str "abcdefghijklmnopqrstuvwxyz") rfl h_SMALL ⟨_, rfl⟩) pa_nil)))) (blkOk_by (own := [("text", 6)]) (N := N_labels_for) (sc := defScope s_labels_for) (by decide +kernel)) (fun _ _ _ _ _ => (pg_name (i := 6) sc_labels_for.nd rfl (Or.inl rfl))) (fun _ _ _ _ _ => (pts_one (pt_cmpR (show OpR _ (compareOp .NotIn) (rIn K true) from op_notIn_seq) (pv 6) (pv 4) (by rfl)))) (fun _ _ _ _ _ => (pv 6)))
        (pss_one (ps_dput hu (pv 1) (pv 2) (pe_ifExp (pt_cmpR op_eq (pv 3) pe_str (nomark _)) (pe_ix ix_list (pv 4) pe_int (fun _ _ => rfl)) (pe_ix ix_list (pv 5) pe_int (fun _ _ => rfl))) rfl)))))
    (pss_one (ps_ret (pv 1))))), ?_⟩
  have lp : ps.length = bs.length := by rw [paired_len hp, List.length_map]
  intro F hF
  have SF := Same.new (u := .dK []) hF
  have gF0 : (upd H F (.dK [])) F = _ := upd_same
  have freeF : H F = none := hF
  generalize upd H F (.dK []) = H0 at SF gF0 ⊢
  refine ⟨_, rfl, d, bs, rfl, bs_same SF ⟨ps, gd, hp⟩, hlen, fun pN H1 S1 gN => ?_⟩
  have lb := neededL_len bs
  have ndN : ((neededB bs).map (·.1)).Nodup := List.Sublist.nodup (List.Sublist.map _ List.filter_sublist) nd
  refine ⟨pN, rfl, ⟨_, SqL.of gN⟩, for_list (K := K) (a := pN) (xs := (neededL bs).map V.str) (fun i σ H' => ∃ (v2 v3 v4 v5 v6 : Option V), σ = [some (.ref d), some (.ref F), v2, v3, v4, v5, v6] ∧ Same H H' ∧ H' pN = some (.lst ((neededL bs).map V.str)) ∧
      H' F = some (.dK (labD (((neededB bs).take i).map fun b => (b.1, pickT b.2)))))
    ⟨_, _, _, _, _, rfl, SF.trans S1, gN, S1 _ _ gF0⟩ (fun i σ H' _ ⟨_, _, _, _, _, _, _, g, _⟩ => SqL.of g) ?_ ?_⟩
  · rintro i x σ H3 hx ⟨v2, v3, v4, v5, v6, rfl, S3, g3N, g3F⟩
    rw [List.getElem?_map] at hx
    obtain ⟨n, en, rfl⟩ := Option.map_eq_some_iff.mp hx
    unfold neededL at en
    rw [List.getElem?_map] at en
    obtain ⟨b, eb, rfl⟩ := Option.map_eq_some_iff.mp en
    have hb : b ∈ bs := (List.mem_filter.mp (mem_at eb)).1
    obtain ⟨j, ej⟩ := List.mem_iff_getElem?.mp hb
    obtain ⟨p, ep⟩ : ∃ p, ps[j]? = some p := ⟨_, List.getElem?_eq_getElem (by have := lt_at ej; omega)⟩
    obtain ⟨b', eb', q, hp1, hq1⟩ := paired_at hp ep
    obtain rfl : b' = b.2 := by rw [List.getElem?_map, ej] at eb'; exact (Option.some.inj eb').symm
    have hg : DGet H3 d (.str b.1) (some (.ref p)) := by
      have := DGet.k (k := Sum.inr b.1) (S3 _ _ gd)
      rw [bsD_val nd ej ep] at this
      exact this
    obtain ⟨few, some_⟩ := hv b hb
    refine ⟨_, rfl, _, rfl, d, _, rfl, hg, p, _, rfl, SqT.of (S3 _ _ hp1), rfl, _, _, rfl, _, _, rfl, rfl, ?_⟩
    refine ⟨smallN (by show 1 ≤ 1000; decide), fun p1 q1 => ⟨_, rfl, (by decide +kernel), fun p2 q2 => ?_⟩⟩
    have S4 := S3.trans ((Same.new (u := .lst [.str ""]) q1).trans (Same.new (u := .lst ((tl "abcdefghijklmnopqrstuvwxyz").map fun c => V.str ⟨#[c]⟩)) q2))
    have S34 := (Same.new (u := .lst [.str ""]) q1).trans (Same.new (u := .lst ((tl "abcdefghijklmnopqrstuvwxyz").map fun c => V.str ⟨#[c]⟩)) q2)
    have g41 : upd (upd H3 p1 (.lst [.str ""])) p2 (.lst ((tl "abcdefghijklmnopqrstuvwxyz").map fun c => V.str ⟨#[c]⟩)) p1 = _ := Same.new q2 _ _ upd_same
    have g42 : upd (upd H3 p1 (.lst [.str ""])) p2 (.lst ((tl "abcdefghijklmnopqrstuvwxyz").map fun c => V.str ⟨#[c]⟩)) p2 = _ := upd_same
    have ec : [V.str ""] ++ ((tl "abcdefghijklmnopqrstuvwxyz").map fun c => V.str ⟨#[c]⟩) = cands.map V.str := by unfold cands; rw [List.map_cons, List.map_map]; rfl
    generalize upd (upd H3 p1 (.lst [.str ""])) p2 (.lst ((tl "abcdefghijklmnopqrstuvwxyz").map fun c => V.str ⟨#[c]⟩)) = H4 at S4 S34 g41 g42 ⊢
    have lc : ([V.str ""] ++ ((tl "abcdefghijklmnopqrstuvwxyz").map fun c => V.str ⟨#[c]⟩)).length ≤ 1000 := by rw [ec, List.length_map, cands_len]; decide
    refine ⟨p1, p2, _, _, rfl, rfl, g41, g42, smallN lc, fun p3 q3 => ?_⟩
    rw [ec]
    have S5 := S34.trans (Same.new (u := .lst (cands.map V.str)) q3)
    have g53 : (upd H4 p3 (.lst (cands.map V.str))) p3 = _ := upd_same
    generalize upd H4 p3 (.lst (cands.map V.str)) = H5 at S5 g53 ⊢
    refine ⟨p3, rfl, ⟨_, SqL.of g53⟩, fun D hD => ?_⟩
    refine lc_list (K := K) (a := p3) (xs := cands.map V.str) (fun j H' => Same H5 H' ∧ H' D = some (.lst (((cands.take j).filter fun c => !decide (c ∈ b.2.2)).map V.str))) ⟨Same.new hD, upd_same⟩ (fun j H' _ p => SqL.of (p.1 _ _ g53)) ?_ ?_
    · rintro j x H6 hx ⟨S6, g6⟩
      rw [List.getElem?_map] at hx
      obtain ⟨c, ec', rfl⟩ := Option.map_eq_some_iff.mp hx
      have gq := S6 _ _ (S5 _ _ (S3 _ _ hq1))
      refine ⟨rfl, _, rfl, _, rfl, q, _, rfl, .inl (SqL.of gq), rfl, flat_strs id _, _, rfl, ?_⟩
      rw [get_take ec', List.filter_append, List.map_append]
      refine iteE (b := !decide (c ∈ b.2.2)) (congrArg not (in_list c b.2.2)) (fun e => ?_) (fun e => ?_)
      · refine ⟨_, rfl, _, g6, small1000 ?_, fun a o ha => ?_, ?_⟩
        · rw [List.length_map]
          have := List.length_filter_le (fun c => !decide (c ∈ b.2.2)) (cands.take j)
          rw [List.length_take, cands_len] at this; omega
        · rw [upd_ne (ne_of_none ha hD)]; exact S6 _ _ ha
        · rw [upd_same]
          have : ([c].filter fun c => !decide (c ∈ b.2.2)) = [c] := by rw [List.filter_cons, e]; rfl
          rw [this]; rfl
      · have : ([c].filter fun c => !decide (c ∈ b.2.2)) = [] := by rw [List.filter_cons, e]; rfl
        rw [this]
        exact ⟨S6, by rw [g6, List.map_nil, List.append_nil]⟩
    rintro H6 ⟨S6, g6⟩
    rw [List.length_map, List.take_length] at g6
    have S36 := S5.trans S6
    have g6F := S36 _ _ g3F
    have gq := S36 _ _ (S3 _ _ hq1)
    -- the store
    have new : b.1 ∉ (((neededB bs).take i).map fun b => (b.1, pickT b.2)).map (·.1) := by
      rw [List.map_map]
      intro z
      obtain ⟨c, hc, ez⟩ := List.mem_map.mp z
      obtain ⟨j', hj'⟩ := List.mem_iff_getElem?.mp hc
      rw [List.getElem?_take] at hj'
      split at hj'
      · rename_i lt
        have h1 : ((neededB bs).map (·.1))[j']? = some b.1 := by rw [List.getElem?_map, hj']; exact congrArg some ez
        have h2 : ((neededB bs).map (·.1))[i]? = some b.1 := by rw [List.getElem?_map, eb]; rfl
        exact absurd ((List.getElem?_inj (lt_at h1) ndN).mp (h1.trans h2.symm)) (Nat.ne_of_lt lt)
      · cases hj'
    have eP : putK (labD (((neededB bs).take i).map fun b => (b.1, pickT b.2))) (Sum.inr b.1) (.str (pickT b.2)) = labD (((neededB bs).take (i + 1)).map fun b => (b.1, pickT b.2)) := by
      rw [putK_new _ (show valV (labD _) (Sum.inr b.1) = none from look_none new), get_take eb, List.map_append]
      unfold labD
      rw [List.map_append]; rfl
    have nF : F ≠ pN := ne_of g3F g3N fun z => by cases z
    have len : (labD (((neededB bs).take i).map fun b => (b.1, pickT b.2))).length < sizeLine := small1000 (by
      unfold labD
      rw [List.length_map, List.length_map, List.length_take]
      have : (neededL bs).length = (neededB bs).length := by unfold neededL; rw [List.length_map]
      omega)
    have last : Same H (upd H6 F (.dK (labD (((neededB bs).take (i + 1)).map fun b => (b.1, pickT b.2))))) ∧ upd H6 F (.dK (labD (((neededB bs).take (i + 1)).map fun b => (b.1, pickT b.2)))) pN = some (.lst ((neededL bs).map V.str)) := by
      refine ⟨fun a o ha => ?_, ?_⟩
      · rw [upd_ne (ne_of_none ha freeF)]; exact S36 _ _ (S3 _ _ ha)
      · rw [upd_ne nF.symm]; exact S36 _ _ g3N
    refine ⟨_, rfl, rfl, _, rfl, ?_⟩
    refine iteE (b := decide (b.2.1 = .is)) (decide_eq_decide.mpr ⟨fun z => vT_inj (a := b.2.1) (b := .is) (by injection z), fun z => by rw [z]; rfl⟩) (fun e => ?_) (fun e => ?_)
    · have e := of_decide_eq_true e
      obtain ⟨z, zs, ez⟩ : ∃ z zs, b.2.2 = z :: zs := by
        cases q : b.2.2 with
        | nil => exact absurd q (some_ e)
        | cons z zs => exact ⟨z, zs, rfl⟩
      have hz : z = pickT b.2 := by unfold pickT; rw [e, ez]; rfl
      refine ⟨_, rfl, q, _, 0, .str z, rfl, rfl, SqL.of gq, (by rw [ez]; exact atI_nat (j := 0) rfl), ?_⟩
      rw [hz]
      refine ⟨_, rfl, _, rfl, F, _, rfl, DPut.k (k := Sum.inr b.1) g6F len, ?_⟩
      rw [eP]
      exact ⟨_, _, _, _, _, rfl, last.1, last.2, upd_same⟩
    · have e := of_decide_eq_false e
      obtain ⟨c, cs, e1, e2, _, _⟩ := free_some few
      have hz : c = pickT b.2 := by unfold pickT; split <;> first | exact absurd (by assumption) e | exact e2.symm
      refine ⟨_, rfl, D, _, 0, .str c, rfl, rfl, SqL.of g6, (by rw [e1]; exact atI_nat (j := 0) rfl), ?_⟩
      rw [hz]
      refine ⟨_, rfl, _, rfl, F, _, rfl, DPut.k (k := Sum.inr b.1) g6F len, ?_⟩
      rw [eP]
      exact ⟨_, _, _, _, _, rfl, last.1, last.2, upd_same⟩
  · rintro σ H3 ⟨v2, v3, v4, v5, v6, rfl, S3, g3N, g3F⟩
    have e : ((neededL bs).map V.str).length = (neededB bs).length := by unfold neededL; rw [List.length_map, List.length_map]
    rw [e, List.take_length] at g3F
    exact ⟨_, rfl, k F H3 S3 freeF g3F⟩

/-! ### what a bound says, and what rows say -/
def satB (b : Bd) (o : Option V) : Prop := match b.1 with
  | .is => o = some (.str (b.2.headD ""))
  | .missing => o = none
  | .there => o.isSome = true ∧ ∀ v ∈ b.2, o ≠ some (.str v)
  | .not => ∀ v ∈ b.2, o ≠ some (.str v)
theorem valsOf_mem {v : Verb} {rs : List Row} {x : Str} : x ∈ valsOf v rs ↔ ∃ r ∈ rs, r.vb = v ∧ r.vl = x := by
  unfold valsOf
  simp only [List.mem_map, List.mem_filter, decide_eq_true_eq]
  exact ⟨fun ⟨r, ⟨h1, h2⟩, h3⟩ => ⟨r, h1, h2, h3⟩, fun ⟨r, h1, h2, h3⟩ => ⟨r, ⟨h1, h2⟩, h3⟩⟩
theorem anyV_iff {v : Verb} {rs : List Row} : anyV v rs = true ↔ ∃ r ∈ rs, r.vb = v := by
  unfold anyV
  simp only [List.any_eq_true, decide_eq_true_eq]
theorem fulB_is {r : Row} {o : Option V} (h : r.vb = .is) : fulB r o = true ↔ o = some (.str r.vl) := by unfold fulB; rw [h]; exact decide_eq_true_iff
theorem fulB_not {r : Row} {o : Option V} (h : r.vb = .not) : fulB r o = true ↔ o ≠ some (.str r.vl) := by unfold fulB; rw [h]; simp
theorem fulB_there {r : Row} {o : Option V} (h : r.vb = .there) : fulB r o = true ↔ o.isSome = true := by unfold fulB; rw [h]
theorem fulB_missing {r : Row} {o : Option V} (h : r.vb = .missing) : fulB r o = true ↔ o = none := by unfold fulB; rw [h]; cases o <;> simp
/-- all that is asked of one name at once -/
structure Asks (rs : List Row) (o : Option V) : Prop where
  is_ : ∀ x ∈ valsOf .is rs, o = some (.str x)
  not_ : ∀ x ∈ valsOf .not rs, o ≠ some (.str x)
  there_ : anyV .there rs = true → o.isSome = true
  gone : anyV .missing rs = true → o = none
theorem asks_iff {rs : List Row} {o : Option V} : (∀ r ∈ rs, fulB r o = true) ↔ Asks rs o := by
  constructor
  · intro h
    refine ⟨fun x hx => ?_, fun x hx => ?_, fun hx => ?_, fun hx => ?_⟩
    · obtain ⟨r, h1, h2, rfl⟩ := valsOf_mem.mp hx; exact (fulB_is h2).mp (h r h1)
    · obtain ⟨r, h1, h2, rfl⟩ := valsOf_mem.mp hx; exact (fulB_not h2).mp (h r h1)
    · obtain ⟨r, h1, h2⟩ := anyV_iff.mp hx; exact (fulB_there h2).mp (h r h1)
    · obtain ⟨r, h1, h2⟩ := anyV_iff.mp hx; exact (fulB_missing h2).mp (h r h1)
  · intro h r hr
    cases e : r.vb with
    | is => exact (fulB_is e).mpr (h.is_ _ (valsOf_mem.mpr ⟨r, hr, e, rfl⟩))
    | not => exact (fulB_not e).mpr (h.not_ _ (valsOf_mem.mpr ⟨r, hr, e, rfl⟩))
    | there => exact (fulB_there e).mpr (h.there_ (anyV_iff.mpr ⟨r, hr, e⟩))
    | missing => exact (fulB_missing e).mpr (h.gone (anyV_iff.mpr ⟨r, hr, e⟩))
theorem sortU_nil : sortU [] = [] := List.eq_nil_of_length_eq_zero (Nat.le_zero.mp (sortU_len []))
theorem empty_sortU {xs : List Str} : (sortU xs).isEmpty = true ↔ xs = [] := by
  rw [List.isEmpty_iff]
  constructor
  · intro h
    cases xs with
    | nil => rfl
    | cons x r => have := (sortU_mem (xs := x :: r)).mpr (List.mem_cons_self); rw [h] at this; cases this
  · rintro rfl; exact sortU_nil
theorem bound_some {rs : List Row} {b : Bd} (h : boundOf rs = some b) (o : Option V) : Asks rs o ↔ satB b o := by
  unfold boundOf at h
  split at h
  · rename_i hm
    split at h
    · cases h
    · rename_i hn
      cases h
      simp only [Bool.or_eq_true, Bool.not_eq_true', not_or, Bool.not_eq_false, Bool.not_eq_true] at hn
      have e := empty_sortU.mp hn.1
      constructor
      · exact fun a => a.gone hm
      · intro s
        have s : o = none := s
        subst s
        exact ⟨fun x hx => (by rw [e] at hx; cases hx), fun x _ => by simp, fun z => (by rw [hn.2] at z; cases z), fun _ => rfl⟩
  · rename_i hm
    split at h
    · rename_i ha
      split at h
      · cases h
      · rename_i hn
        cases h
        simp only [Bool.or_eq_true, decide_eq_true_eq, not_or, Nat.not_lt] at hn
        obtain ⟨x, ex⟩ : ∃ x, sortU (valsOf .is rs) = [x] := by
          cases q : sortU (valsOf .is rs) with
          | nil => rw [q] at ha; cases ha
          | cons x r =>
            rw [q] at hn
            cases r with
            | nil => exact ⟨x, rfl⟩
            | cons y r => simp only [List.length_cons] at hn; omega
        have hd : (sortU (valsOf .is rs)).headD "" = x := by rw [ex]; rfl
        have m : ∀ y, y ∈ valsOf .is rs ↔ y = x := fun y => by rw [← sortU_mem, ex, List.mem_singleton]
        rw [hd] at hn
        constructor
        · intro a
          show o = some (.str ((sortU (valsOf .is rs)).headD ""))
          rw [hd]
          exact a.is_ x ((m x).mpr rfl)
        · intro s
          have s : o = some (.str ((sortU (valsOf .is rs)).headD "")) := s
          rw [hd] at s
          subst s
          refine ⟨fun y hy => by rw [(m y).mp hy], fun y hy => ?_, fun _ => rfl, fun z => absurd z hm⟩
          intro z
          injection z with z
          injection z with z
          exact hn.2 (z ▸ sortU_mem.mpr hy)
    · rename_i ha
      cases h
      have e := empty_sortU.mp (by simpa using ha)
      by_cases ht : anyV .there rs = true
      · rw [if_pos ht]
        constructor
        · exact fun a => ⟨a.there_ ht, fun v hv => a.not_ v (sortU_mem.mp hv)⟩
        · exact fun s => ⟨fun x hx => (by rw [e] at hx; cases hx), fun x hx => s.2 x (sortU_mem.mpr hx), fun _ => s.1, fun z => absurd z hm⟩
      · rw [if_neg ht]
        constructor
        · exact fun a v hv => a.not_ v (sortU_mem.mp hv)
        · exact fun s => ⟨fun x hx => (by rw [e] at hx; cases hx), fun x hx => s x (sortU_mem.mpr hx), fun z => absurd z ht, fun z => absurd z hm⟩
theorem bound_none {rs : List Row} (h : boundOf rs = none) (o : Option V) : ¬ Asks rs o := by
  intro a
  unfold boundOf at h
  split at h
  · rename_i hm
    have g := a.gone hm
    subst g
    split at h
    · rename_i hn
      rcases Bool.or_eq_true_iff.mp hn with q | q
      · cases e : valsOf .is rs with
        | nil => rw [e, sortU_nil] at q; exact absurd q (by decide)
        | cons x r => exact nomatch a.is_ x (by rw [e]; exact List.mem_cons_self)
      · exact nomatch a.there_ q
    · cases h
  · split at h
    · rename_i ha
      split at h
      · rename_i hn
        cases q : sortU (valsOf .is rs) with
        | nil => rw [q] at ha; cases ha
        | cons x r =>
          rw [q] at hn
          have hx := a.is_ x (sortU_mem.mp (by rw [q]; exact List.mem_cons_self))
          rcases Bool.or_eq_true_iff.mp hn with z | z
          · cases r with
            | nil => exact absurd (of_decide_eq_true z) (by show ¬ 1 < 1; decide)
            | cons y r =>
              have hy := a.is_ y (sortU_mem.mp (by rw [q]; exact List.mem_cons_of_mem _ List.mem_cons_self))
              have nd := sortU_once (valsOf .is rs)
              rw [q, List.nodup_cons] at nd
              rw [hx] at hy
              injection hy with hy
              injection hy with hy
              exact nd.1 (hy ▸ List.mem_cons_self)
          · exact a.not_ x (sortU_mem.mp (of_decide_eq_true z)) hx
      · cases h
    · cases h
theorem bound_vals {rs : List Row} {b : Bd} (h : boundOf rs = some b) : b.2.length ≤ rs.length ∧ (b.1 = .is → b.2 ≠ []) ∧ ∀ v ∈ b.2, ∃ r ∈ rs, r.vl = v := by
  have l : ∀ v, (sortU (valsOf v rs)).length ≤ rs.length := fun v => Nat.le_trans (sortU_len _) (valsOf_len _ _)
  have m : ∀ v x, x ∈ sortU (valsOf v rs) → ∃ r ∈ rs, r.vl = x := fun v x hx => by
    obtain ⟨r, h1, _, h2⟩ := valsOf_mem.mp (sortU_mem.mp hx); exact ⟨r, h1, h2⟩
  unfold boundOf at h
  split at h
  · split at h
    · cases h
    · cases h; exact ⟨Nat.zero_le _, fun z => (nomatch z), fun v hv => (nomatch hv)⟩
  · split at h
    · rename_i ha
      split at h
      · cases h
      · cases h; exact ⟨l .is, fun _ z => (by rw [show sortU (valsOf .is rs) = [] from z] at ha; cases ha), m .is⟩
    · cases h
      exact ⟨l .not, fun z => (by dsimp only at z; split at z <;> cases z), m .not⟩
theorem pick_sat {b : Bd} (h : b.2.length ≤ 26) : (needV b.1 = true → satB b (some (.str (pickT b)))) ∧ (needV b.1 = false → satB b none) := by
  obtain ⟨v, vals⟩ := b
  obtain ⟨c, cs, _, e, _, nc⟩ := free_some h
  cases v with
  | is => exact ⟨fun _ => rfl, fun z => nomatch z⟩
  | not => exact ⟨fun z => (nomatch z), fun _ v _ => by simp⟩
  | there => exact ⟨fun _ => ⟨rfl, fun v hv z => nc (by injection z with z; injection z with z; have z : freeT vals = v := z; rw [← e]; show freeT vals ∈ vals; rw [z]; exact hv)⟩, fun z => nomatch z⟩
  | missing => exact ⟨fun z => (nomatch z), fun _ => rfl⟩
theorem need_some {b : Bd} {o : Option V} (n : needV b.1 = true) (s : satB b o) : o.isSome = true := by
  obtain ⟨v, vals⟩ := b
  cases v with
  | is => have s : o = _ := s; rw [s]; rfl
  | not => exact nomatch n
  | there => exact s.1
  | missing => exact nomatch n
/-! ### bounds by names: the labels that they give fulfil the rows, and rows without bounds are fulfilled by nothing -/
theorem isB_mem {rs : List Row} {bs : List (Str × Bd)} (h : IsB rs bs) {r : Row} (hr : r ∈ rs) : ∃ b ∈ bs, b.1 = r.nm := by
  have : r.nm ∈ bs.map (·.1) := by rw [h.1]; exact sortU_mem.mpr (List.mem_map_of_mem hr)
  obtain ⟨b, hb, e⟩ := List.mem_map.mp this
  exact ⟨b, hb, e⟩
theorem isB_once {rs : List Row} {bs : List (Str × Bd)} (h : IsB rs bs) : (bs.map (·.1)).Nodup := by rw [h.1]; exact sortU_once _
theorem isB_vals {rs : List Row} {bs : List (Str × Bd)} (h : IsB rs bs) {b : Str × Bd} (hb : b ∈ bs) : b.2.2.length ≤ rs.length ∧ (b.2.1 = .is → b.2.2 ≠ []) ∧ ∀ v ∈ b.2.2, ∃ r ∈ rs, r.vl = v := by
  obtain ⟨h1, h2, h3⟩ := bound_vals (h.2 b hb)
  refine ⟨Nat.le_trans h1 (ownR_len _ _), h2, fun v hv => ?_⟩
  obtain ⟨r, hr, e⟩ := h3 v hv
  exact ⟨r, (List.mem_filter.mp hr).1, e⟩
theorem labelsF_names (bs : List (Str × Bd)) : (labelsF bs).map (·.1) = neededL bs := by unfold labelsF neededL; rw [List.map_map]; rfl
theorem labelsF_once {bs : List (Str × Bd)} (h : (bs.map (·.1)).Nodup) : ((labelsF bs).map (·.1)).Nodup := by
  rw [labelsF_names]; exact List.Sublist.nodup (List.Sublist.map _ List.filter_sublist) h
theorem look_labels {bs : List (Str × Bd)} (nd : (bs.map (·.1)).Nodup) {b : Str × Bd} (hb : b ∈ bs) : look (labelsF bs) b.1 = if needV b.2.1 = true then some (.str (pickT b.2)) else none := by
  by_cases e : needV b.2.1 = true
  · rw [if_pos e]
    exact look_mem (p := (b.1, pickT b.2)) (labelsF_once nd) (List.mem_map_of_mem (f := fun b : Str × Bd => (b.1, pickT b.2)) (List.mem_filter.mpr ⟨hb, e⟩))
  · rw [if_neg e]
    refine look_none ?_
    rw [labelsF_names]
    intro z
    obtain ⟨c, hc, ec⟩ := List.mem_map.mp z
    obtain ⟨c1, c2⟩ := List.mem_filter.mp hc
    obtain ⟨i, hi⟩ := List.mem_iff_getElem?.mp hb
    obtain ⟨j, hj⟩ := List.mem_iff_getElem?.mp c1
    have e1 : (bs.map (·.1))[i]? = some b.1 := by rw [List.getElem?_map, hi]; rfl
    have e2 : (bs.map (·.1))[j]? = some b.1 := by rw [List.getElem?_map, hj]; exact congrArg some ec
    have ij := (List.getElem?_inj (lt_at e1) nd).mp (e1.trans e2.symm)
    subst ij
    rw [hi] at hj
    cases hj
    exact e c2
theorem asks_own {rs : List Row} {kvs : List (Str × Str)} : fulAll rs kvs = true ↔ ∀ n ∈ rs.map (·.nm), Asks (ownR rs n) (look kvs n) := by
  unfold fulAll
  rw [List.all_eq_true]
  constructor
  · intro h n _
    refine asks_iff.mp fun r hr => ?_
    obtain ⟨h1, h2⟩ := List.mem_filter.mp hr
    have := h r h1
    rw [of_decide_eq_true h2] at this
    exact this
  · intro h r hr
    exact asks_iff.mpr (h r.nm (List.mem_map_of_mem hr)) r (List.mem_filter.mpr ⟨hr, decide_eq_true rfl⟩)
theorem labels_ful {rs : List Row} {bs : List (Str × Bd)} (h : IsB rs bs) (few : rs.length ≤ 26) : fulAll rs (labelsF bs) = true := by
  refine asks_own.mpr fun n hn => ?_
  obtain ⟨r, hr, rfl⟩ := List.mem_map.mp hn
  obtain ⟨b, hb, e⟩ := isB_mem h hr
  rw [← e, bound_some (h.2 b hb), look_labels (isB_once h) hb]
  have p := pick_sat (b := b.2) (Nat.le_trans (isB_vals h hb).1 few)
  by_cases z : needV b.2.1 = true
  · rw [if_pos z]; exact p.1 z
  · rw [if_neg z]; exact p.2 (by simpa using z)
theorem none_ful {rs : List Row} (h : NoB rs) {kvs : List (Str × Str)} (few : kvs.length ≤ 8) : fulAll rs kvs = false := by
  cases q : fulAll rs kvs with
  | false => rfl
  | true =>
    exfalso
    have a := asks_own.mp q
    rcases h with ⟨n, hn, e⟩ | ⟨bs, hb, big⟩
    · exact bound_none e _ (a n hn)
    · have sub : ∀ n ∈ neededL bs, n ∈ kvs.map (·.1) := fun n hn => by
        obtain ⟨b, hb', rfl⟩ := List.mem_map.mp hn
        obtain ⟨b1, b2⟩ := List.mem_filter.mp hb'
        have hm : b.1 ∈ rs.map (·.nm) := sortU_mem.mp (by rw [← hb.1]; exact List.mem_map_of_mem b1)
        have s := need_some b2 ((bound_some (hb.2 b b1) _).mp (a b.1 hm))
        cases z : decide (b.1 ∈ kvs.map (·.1)) with
        | true => exact of_decide_eq_true z
        | false => rw [look_none (of_decide_eq_false z)] at s; cases s
      have nd : (neededL bs).Nodup := List.Sublist.nodup (List.Sublist.map _ List.filter_sublist) (isB_once hb)
      have := within_len nd sub
      rw [List.length_map] at this
      omega
/-- name and value are of the right form -/
def RowN (r : Row) : Prop := userB r.nm = true ∧ lvalB r.vl = true ∧ r.nm.length ≤ 50 ∧ r.vl.length ≤ 50
theorem labels_ok {rs : List Row} {bs : List (Str × Bd)} (h : IsB rs bs) (few : rs.length ≤ 26) (need : (neededL bs).length ≤ 8) (all : ∀ r ∈ rs, RowN r) : LabOk (labelsF bs) := by
  refine ⟨?_, fun p hp => ?_, labelsF_once (isB_once h)⟩
  · have : (labelsF bs).length = (neededL bs).length := by rw [← labelsF_names, List.length_map]
    omega
  · obtain ⟨b, hb, rfl⟩ := List.mem_map.mp hp
    obtain ⟨b1, b2⟩ := List.mem_filter.mp hb
    have hm : b.1 ∈ rs.map (·.nm) := sortU_mem.mp (by rw [← h.1]; exact List.mem_map_of_mem b1)
    obtain ⟨r, hr, er⟩ := List.mem_map.mp hm
    obtain ⟨f1, _, f3, _⟩ := all r hr
    obtain ⟨v1, v2, v3⟩ := isB_vals h b1
    have val : lvalB (pickT b.2) = true ∧ (pickT b.2).length ≤ 100 := by
      unfold pickT
      split
      · rename_i ev
        cases q : b.2.2 with
        | nil => exact absurd q (v2 ev)
        | cons x xs =>
          obtain ⟨r', hr', e'⟩ := v3 x (by rw [q]; exact List.mem_cons_self)
          obtain ⟨_, f2, _, f4⟩ := all r' hr'
          show lvalB x = true ∧ x.length ≤ 100
          rw [← e']
          exact ⟨f2, Nat.le_trans f4 (by decide)⟩
      · obtain ⟨c, cs, _, e, hc, _⟩ := free_some (Nat.le_trans v1 few)
        have q := List.all_eq_true.mp cands_ok c hc
        rw [e]
        exact ⟨(Bool.and_eq_true_iff.mp q).1, Nat.le_trans (of_decide_eq_true (Bool.and_eq_true_iff.mp q).2) (by decide)⟩
    show userB b.1 = true ∧ lvalB (pickT b.2) = true ∧ b.1.length ≤ 100 ∧ (pickT b.2).length ≤ 100
    rw [← er]
    exact ⟨f1, val.1, Nat.le_trans f3 (by decide), val.2⟩
theorem fulAll_app (r1 r2 : List Row) (kvs : List (Str × Str)) : fulAll (r1 ++ r2) kvs = (fulAll r1 kvs && fulAll r2 kvs) := by unfold fulAll; rw [List.all_append]
/-- the opposite of a requirement -/
def oppV : Verb → Verb
  | .is => .not
  | .not => .is
  | .there => .missing
  | .missing => .there
def oppR (r : Row) : Row := ⟨r.nm, oppV r.vb, r.vl⟩
theorem opp_ful (r : Row) (o : Option V) : fulB (oppR r) o = !fulB r o := by
  unfold fulB oppR
  cases r.vb <;> simp [oppV]
theorem not_ful {rs : List Row} {kvs : List (Str × Str)} : fulAll rs kvs = false ↔ ∃ r ∈ rs, fulAll [oppR r] kvs = true := by
  unfold fulAll
  rw [List.all_eq_false]
  constructor
  · rintro ⟨r, hr, h⟩
    exact ⟨r, hr, by rw [List.all_cons, List.all_nil, opp_ful]; simp only [Bool.not_eq_true] at h; show (!fulB r (look kvs r.nm) && true) = true; rw [h]; rfl⟩
  · rintro ⟨r, hr, h⟩
    refine ⟨r, hr, fun z => ?_⟩
    rw [List.all_cons, List.all_nil, opp_ful] at h
    have h : (!fulB r (look kvs r.nm) && true) = true := h
    rw [z] at h
    cases h

/-! ### normal rows -/
def nrowsOf (b : Str × Bd) : List Row := match b.2.1 with
  | .is => [⟨b.1, .is, b.2.2.headD ""⟩]
  | .missing => [⟨b.1, .missing, ""⟩]
  | .there => ⟨b.1, .there, ""⟩ :: b.2.2.map fun v => ⟨b.1, .not, v⟩
  | .not => b.2.2.map fun v => ⟨b.1, .not, v⟩
def nrows (bs : List (Str × Bd)) : List Row := bs.flatMap nrowsOf
theorem nrowsOf_nm {b : Str × Bd} {r : Row} (h : r ∈ nrowsOf b) : r.nm = b.1 := by
  obtain ⟨n, v, l⟩ := b
  cases v with
  | is => rw [List.mem_singleton.mp h]
  | missing => rw [List.mem_singleton.mp h]
  | there =>
    rcases List.mem_cons.mp h with e | h
    · rw [e]
    · obtain ⟨x, _, rfl⟩ := List.mem_map.mp h; rfl
  | not => obtain ⟨x, _, rfl⟩ := List.mem_map.mp h; rfl
/-- what a bound may be -/
inductive FormB (rs : List Row) : Bd → Prop
  | missing (h : anyV .missing rs = true) : FormB rs (.missing, [])
  | is (x : Str) (h : x ∈ valsOf .is rs) : FormB rs (.is, [x])
  | there (h : anyV .there rs = true) : FormB rs (.there, sortU (valsOf .not rs))
  | not (h1 : anyV .there rs = false) (h2 : anyV .missing rs = false) (h3 : valsOf .is rs = []) : FormB rs (.not, sortU (valsOf .not rs))
theorem bound_form {rs : List Row} {b : Bd} (h : boundOf rs = some b) : FormB rs b := by
  unfold boundOf at h
  split at h
  · rename_i hm
    split at h
    · cases h
    · cases h; exact .missing hm
  · rename_i hm
    split at h
    · rename_i ha
      split at h
      · cases h
      · rename_i hn
        cases h
        simp only [Bool.or_eq_true, decide_eq_true_eq, not_or, Nat.not_lt] at hn
        cases q : sortU (valsOf .is rs) with
        | nil => rw [q] at ha; cases ha
        | cons x r =>
          rw [q] at hn
          cases r with
          | nil => exact .is x (sortU_mem.mp (by rw [q]; exact List.mem_cons_self))
          | cons y r => simp only [List.length_cons] at hn; omega
    · rename_i ha
      cases h
      have e := empty_sortU.mp (by simpa using ha)
      by_cases ht : anyV .there rs = true
      · rw [if_pos ht]; exact .there ht
      · rw [if_neg ht]; exact .not (by simpa using ht) (by simpa using hm) e
theorem sortU_ext {xs ys : List Str} (h : ∀ x, x ∈ xs ↔ x ∈ ys) : sortU xs = sortU ys := by
  have nd1 : (putAll [] xs).Nodup := putAll_once .nil
  have nd2 : (putAll [] ys).Nodup := putAll_once .nil
  have p : (putAll [] xs).Perm (putAll [] ys) := (List.perm_ext_iff_of_nodup nd1 nd2).mpr fun x => by rw [putAll_mem, putAll_mem]; simp only [List.not_mem_nil, false_or]; exact h x
  unfold sortU
  exact srt_eq ((srt_perm _).trans p) (srt_sorted _)
theorem sortU_idem (xs : List Str) : sortU (sortU xs) = sortU xs := sortU_ext fun _ => sortU_mem
theorem sortU_one (x : Str) : sortU [x] = [x] := by
  have h := sortU_len [x]
  have m : x ∈ sortU [x] := sortU_mem.mpr (List.mem_singleton.mpr rfl)
  match e : sortU [x], h, m with
  | [y], _, m => rw [List.mem_singleton.mp m]
  | [], _, m => cases m
  | _ :: _ :: _, h, _ => simp at h
theorem valsNot (n : Str) (l : List Str) : valsOf .not (l.map fun v => (⟨n, .not, v⟩ : Row)) = l := by
  unfold valsOf
  rw [List.filter_eq_self.mpr (fun r hr => by obtain ⟨x, _, rfl⟩ := List.mem_map.mp hr; rfl), List.map_map]
  exact List.map_id' _
theorem valsNotO {v : Verb} (hv : v ≠ .not) (n : Str) (l : List Str) : valsOf v (l.map fun v => (⟨n, .not, v⟩ : Row)) = [] := by
  unfold valsOf
  rw [List.filter_eq_nil_iff.mpr (fun r hr => by obtain ⟨x, _, rfl⟩ := List.mem_map.mp hr; simp [hv.symm])]
  rfl
theorem anyNotO {v : Verb} (hv : v ≠ .not) (n : Str) (l : List Str) : anyV v (l.map fun v => (⟨n, .not, v⟩ : Row)) = false := by
  unfold anyV
  rw [List.any_eq_false]
  intro r hr
  obtain ⟨x, _, rfl⟩ := List.mem_map.mp hr
  simp [hv.symm]
theorem valsOf_cons (v : Verb) (r : Row) (rs : List Row) : valsOf v (r :: rs) = if r.vb = v then r.vl :: valsOf v rs else valsOf v rs := by
  unfold valsOf
  by_cases e : r.vb = v <;> simp [e]
theorem anyV_cons (v : Verb) (r : Row) (rs : List Row) : anyV v (r :: rs) = (decide (r.vb = v) || anyV v rs) := rfl
theorem bound_again {rs : List Row} {b : Bd} (n : Str) (h : FormB rs b) : boundOf (nrowsOf (n, b)) = some b := by
  cases h with
  | missing h =>
    show boundOf [⟨n, .missing, ""⟩] = _
    unfold boundOf
    simp [anyV, valsOf, sortU_nil]
  | is x h =>
    show boundOf [⟨n, .is, x⟩] = _
    unfold boundOf
    simp [anyV, valsOf, sortU_nil, sortU_one]
  | there h =>
    show boundOf (⟨n, .there, ""⟩ :: (sortU (valsOf .not rs)).map fun v => ⟨n, .not, v⟩) = _
    unfold boundOf
    simp only [anyV_cons, valsOf_cons, anyNotO (v := .missing) (by decide), anyNotO (v := .there) (by decide), valsNotO (v := .is) (by decide), valsNot, sortU_idem, sortU_nil]
    simp [sortU_nil, sortU_idem]
  | not h1 h2 h3 =>
    show boundOf ((sortU (valsOf .not rs)).map fun v => ⟨n, .not, v⟩) = _
    unfold boundOf
    simp only [anyNotO (v := .missing) (by decide), anyNotO (v := .there) (by decide), valsNotO (v := .is) (by decide), valsNot, sortU_idem, sortU_nil]
    rfl
theorem own_out {bs : List (Str × Bd)} {n : Str} (h : n ∉ bs.map (·.1)) : ownR (nrows bs) n = [] := by
  unfold ownR
  rw [List.filter_eq_nil_iff]
  intro r hr z
  obtain ⟨b, hb, hr⟩ := List.mem_flatMap.mp hr
  exact h (by rw [← of_decide_eq_true z, nrowsOf_nm hr]; exact List.mem_map_of_mem hb)
theorem own_nrows : ∀ {bs : List (Str × Bd)} {b : Str × Bd}, (bs.map (·.1)).Nodup → b ∈ bs → ownR (nrows bs) b.1 = nrowsOf b
  | c :: bs, b, nd, hb => by
    have e : nrows (c :: bs) = nrowsOf c ++ nrows bs := List.flatMap_cons ..
    have ea : ownR (nrowsOf c ++ nrows bs) b.1 = ownR (nrowsOf c) b.1 ++ ownR (nrows bs) b.1 := List.filter_append ..
    rw [List.map_cons, List.nodup_cons] at nd
    rw [e, ea]
    rcases List.mem_cons.mp hb with rfl | hb
    · rw [own_out nd.1, List.append_nil]
      exact List.filter_eq_self.mpr fun r hr => decide_eq_true (nrowsOf_nm hr)
    · rw [own_nrows nd.2 hb]
      have : ownR (nrowsOf c) b.1 = [] := List.filter_eq_nil_iff.mpr fun r hr z => nd.1 (by rw [← nrowsOf_nm hr, of_decide_eq_true z]; exact List.mem_map_of_mem hb)
      rw [this]; rfl
theorem nrowsOf_ne {rs : List Row} {n : Str} {b : Bd} (h : FormB rs b) (ne : rs ≠ []) : nrowsOf (n, b) ≠ [] := by
  cases h with
  | missing h => exact fun z => nomatch z
  | is x h => exact fun z => nomatch z
  | there h => exact fun z => nomatch z
  | not h1 h2 h3 =>
    intro z
    have z : (sortU (valsOf .not rs)).map (fun v => (⟨n, .not, v⟩ : Row)) = [] := z
    have z := List.map_eq_nil_iff.mp z
    cases rs with
    | nil => exact ne rfl
    | cons r rs =>
      have : r.vb = .not := by
        cases e : r.vb with
        | not => rfl
        | is => rw [valsOf_cons, e] at h3; cases h3
        | there => rw [anyV_cons, e] at h1; cases h1
        | missing => rw [anyV_cons, e] at h2; cases h2
      have m : r.vl ∈ sortU (valsOf .not (r :: rs)) := sortU_mem.mpr (by rw [valsOf_cons, if_pos this]; exact List.mem_cons_self)
      rw [z] at m
      cases m
theorem own_ne {rs : List Row} {n : Str} (h : n ∈ rs.map (·.nm)) : ownR rs n ≠ [] := by
  obtain ⟨r, hr, rfl⟩ := List.mem_map.mp h
  intro z
  have : r ∈ ownR rs r.nm := List.mem_filter.mpr ⟨hr, decide_eq_true rfl⟩
  rw [z] at this
  cases this
section
variable {rs : List Row} {bs : List (Str × Bd)} (h : IsB rs bs)
include h
theorem isB_in {b : Str × Bd} (hb : b ∈ bs) : b.1 ∈ rs.map (·.nm) := sortU_mem.mp (by rw [← h.1]; exact List.mem_map_of_mem hb)
theorem nrows_names (n : Str) : n ∈ (nrows bs).map (·.nm) ↔ n ∈ rs.map (·.nm) := by
  constructor
  · intro m
    obtain ⟨r, hr, rfl⟩ := List.mem_map.mp m
    obtain ⟨b, hb, hr⟩ := List.mem_flatMap.mp hr
    rw [nrowsOf_nm hr]
    exact isB_in h hb
  · intro m
    obtain ⟨r, hr, rfl⟩ := List.mem_map.mp m
    obtain ⟨b, hb, e⟩ := isB_mem h hr
    have ne := nrowsOf_ne (n := b.1) (bound_form (h.2 b hb)) (own_ne (isB_in h hb))
    obtain ⟨q, l, eq⟩ := List.exists_cons_of_ne_nil ne
    have hq : q ∈ nrowsOf b := by rw [show b = (b.1, b.2) from rfl, eq]; exact List.mem_cons_self
    rw [← e, ← nrowsOf_nm hq]
    exact List.mem_map_of_mem (List.mem_flatMap.mpr ⟨b, hb, hq⟩)
theorem isB_again : IsB (nrows bs) bs := by
  refine ⟨by rw [h.1]; exact sortU_ext fun n => (nrows_names h n).symm, fun b hb => ?_⟩
  rw [own_nrows (isB_once h) hb]
  exact bound_again b.1 (bound_form (h.2 b hb))
theorem nrows_ful (t : List (Str × Str)) : fulAll (nrows bs) t = fulAll rs t := by
  have key : fulAll (nrows bs) t = true ↔ fulAll rs t = true := by
    rw [asks_own, asks_own]
    have one : ∀ n ∈ rs.map (·.nm), (Asks (ownR (nrows bs) n) (look t n) ↔ Asks (ownR rs n) (look t n)) := fun n hn => by
      obtain ⟨r, hr, rfl⟩ := List.mem_map.mp hn
      obtain ⟨b, hb, e⟩ := isB_mem h hr
      rw [← e, bound_some (h.2 b hb), bound_some ((isB_again h).2 b hb)]
    exact ⟨fun a n hn => (one n hn).mp (a n ((nrows_names h n).mpr hn)), fun a n hn => (one n ((nrows_names h n).mp hn)).mpr (a n ((nrows_names h n).mp hn))⟩
  cases e : fulAll rs t with
  | true => exact key.mpr e
  | false =>
    cases e2 : fulAll (nrows bs) t with
    | false => rfl
    | true => rw [key.mp e2] at e; cases e
end
/-- each normal row is one of the rows -/
theorem nrows_sub0 {rs : List Row} {bs : List (Str × Bd)} (h : ∀ b ∈ bs, boundOf (ownR rs b.1) = some b.2) (tidy : ∀ r ∈ rs, r.vb = .there ∨ r.vb = .missing → r.vl = "") : ∀ r ∈ nrows bs, r ∈ rs := by
  intro r hr
  obtain ⟨⟨n, b⟩, hb, hr⟩ := List.mem_flatMap.mp hr
  have own : ∀ q ∈ ownR rs n, q ∈ rs ∧ q.nm = n := fun q hq => ⟨(List.mem_filter.mp hq).1, of_decide_eq_true (List.mem_filter.mp hq).2⟩
  have vals : ∀ v x, x ∈ valsOf v (ownR rs n) → (⟨n, v, x⟩ : Row) ∈ rs := fun v x hx => by
    obtain ⟨q, h1, h2, h3⟩ := valsOf_mem.mp hx
    obtain ⟨o1, o2⟩ := own q h1
    subst h2 h3 o2
    exact o1
  have any : ∀ v, v = .there ∨ v = .missing → anyV v (ownR rs n) = true → (⟨n, v, ""⟩ : Row) ∈ rs := fun v hv hx => by
    obtain ⟨q, h1, h2⟩ := anyV_iff.mp hx
    obtain ⟨o1, o2⟩ := own q h1
    subst h2 o2
    rw [← tidy q o1 hv]
    exact o1
  have f : FormB (ownR rs n) b := bound_form (h (n, b) hb)
  cases f with
  | missing m => rw [List.mem_singleton.mp hr]; exact any _ (.inr rfl) m
  | is x m => rw [List.mem_singleton.mp hr]; exact vals _ _ m
  | there m =>
    rcases List.mem_cons.mp hr with e | hr
    · rw [e]; exact any _ (.inl rfl) m
    · obtain ⟨x, hx, rfl⟩ := List.mem_map.mp hr
      exact vals _ _ (sortU_mem.mp hx)
  | not h1 h2 h3 =>
    obtain ⟨x, hx, rfl⟩ := List.mem_map.mp hr
    exact vals _ _ (sortU_mem.mp hx)
theorem nrows_sub {rs : List Row} {bs : List (Str × Bd)} (h : IsB rs bs) (tidy : ∀ r ∈ rs, r.vb = .there ∨ r.vb = .missing → r.vl = "") : ∀ r ∈ nrows bs, r ∈ rs := nrows_sub0 h.2 tidy
theorem nots_once {n : Str} {l : List Str} (h : l.Nodup) : (l.map fun v => (⟨n, .not, v⟩ : Row)).Nodup := by
  unfold List.Nodup at h ⊢
  rw [List.pairwise_map]
  exact h.imp fun {a b} ne z => ne (by injection z)
theorem nrowsOf_once {rs : List Row} {n : Str} {b : Bd} (h : FormB rs b) : (nrowsOf (n, b)).Nodup := by
  cases h with
  | missing h => exact List.nodup_cons.mpr ⟨fun z => (nomatch z), .nil⟩
  | is x h => exact List.nodup_cons.mpr ⟨fun z => (nomatch z), .nil⟩
  | there h => exact List.nodup_cons.mpr ⟨fun z => (by obtain ⟨x, _, e⟩ := List.mem_map.mp z; injection e with _ e _; cases e), nots_once (sortU_once _)⟩
  | not h1 h2 h3 => exact nots_once (sortU_once _)
theorem nrows_once : ∀ {bs : List (Str × Bd)}, (bs.map (·.1)).Nodup → (∀ b ∈ bs, (nrowsOf b).Nodup) → (nrows bs).Nodup
  | [], _, _ => .nil
  | c :: bs, nd, each => by
    rw [List.map_cons, List.nodup_cons] at nd
    have e : nrows (c :: bs) = nrowsOf c ++ nrows bs := List.flatMap_cons ..
    rw [e]
    refine List.nodup_append.mpr ⟨each c List.mem_cons_self, nrows_once nd.2 fun b hb => each b (List.mem_cons_of_mem _ hb), fun a ha b hb z => ?_⟩
    subst z
    obtain ⟨d, hd, hb⟩ := List.mem_flatMap.mp hb
    exact nd.1 (by rw [← nrowsOf_nm ha, nrowsOf_nm hb]; exact List.mem_map_of_mem hd)
theorem within_row : ∀ {l ks : List Row}, l.Nodup → (∀ x ∈ l, x ∈ ks) → l.length ≤ ks.length
  | [], _, _, _ => Nat.zero_le _
  | x :: l, ks, nd, sub => by
    have ⟨nx, nr⟩ := List.nodup_cons.mp nd
    have mx := sub x List.mem_cons_self
    have le := within_row (ks := ks.erase x) nr fun y hy => (List.mem_erase_of_ne fun z : y = x => nx (z ▸ hy)).mpr (sub y (List.mem_cons_of_mem _ hy))
    rw [List.length_erase_of_mem mx] at le
    have := List.length_pos_of_mem mx
    rw [List.length_cons]
    omega
theorem tidy8 {rs : List Row} (h : Rows8 rs) : ∀ r ∈ rs, r.vb = .there ∨ r.vb = .missing → r.vl = "" := fun r hr e => by
  have f := row_f (h.2 r hr)
  rcases e with e | e
  · exact (f.the e).2.2.2.2
  · exact (f.mis e).2.2
theorem nrows8 {rs : List Row} {bs : List (Str × Bd)} (h : IsB rs bs) (h8 : Rows8 rs) : Rows8 (nrows bs) := by
  have sub := nrows_sub h (tidy8 h8)
  have once : (nrows bs).Nodup := nrows_once (isB_once h) fun b hb => nrowsOf_once (n := b.1) (bound_form (h.2 b hb))
  exact ⟨Nat.le_trans (within_row once sub) h8.1, fun r hr => h8.2 r (sub r hr)⟩

theorem pi_listK {X : Cx} {K : PySem.W.Frag} {tg e : Expr} {te : TE} (same : X.K = K) (h : PE X e te) : PI X tg e (iList K te) := same ▸ pi_list h
theorem app_none (x : Str) : x ++ ("" : Str) = x := by
  obtain ⟨a⟩ := x
  show Str.mk (a ++ _) = _
  exact congrArg Str.mk (Array.append_empty (xs := a))
theorem none_app (x : Str) : ("" : Str) ++ x = x := by
  obtain ⟨a⟩ := x
  show Str.mk (_ ++ a) = _
  exact congrArg Str.mk (Array.empty_append (xs := a))
def bdOf (rs : List Row) (n : Str) : Bd := (boundOf (ownR rs n)).getD (.not, [])
def okB (rs : List Row) : Bool := (rs.map (·.nm)).all fun n => (boundOf (ownR rs n)).isSome
def bsOf (rs : List Row) : List (Str × Bd) := (sortU (rs.map (·.nm))).map fun n => (n, bdOf rs n)
theorem bdOf_eq {rs : List Row} {n : Str} {b : Bd} (h : boundOf (ownR rs n) = some b) : bdOf rs n = b := by unfold bdOf; rw [h]; rfl
theorem okB_at {rs : List Row} (h : okB rs = true) {n : Str} (hn : n ∈ rs.map (·.nm)) : boundOf (ownR rs n) = some (bdOf rs n) := by
  obtain ⟨b, hb⟩ := Option.isSome_iff_exists.mp (List.all_eq_true.mp h n hn)
  rw [bdOf_eq hb]; exact hb
theorem isB_of {rs : List Row} (h : okB rs = true) : IsB rs (bsOf rs) := by
  unfold bsOf
  refine ⟨by rw [List.map_map]; exact List.map_id' _, fun b hb => ?_⟩
  obtain ⟨n, hn, rfl⟩ := List.mem_map.mp hb
  exact okB_at h (sortU_mem.mp hn)
theorem isB_ok {rs : List Row} {bs : List (Str × Bd)} (h : IsB rs bs) : okB rs = true := by
  refine List.all_eq_true.mpr fun n hn => ?_
  obtain ⟨r, hr, rfl⟩ := List.mem_map.mp hn
  obtain ⟨b, hb, e⟩ := isB_mem h hr
  rw [← e, h.2 b hb]; rfl
theorem isB_eq {rs : List Row} {bs : List (Str × Bd)} (h : IsB rs bs) : bs = bsOf rs := by
  unfold bsOf
  rw [← h.1, List.map_map]
  have : ∀ l : List (Str × Bd), (∀ b ∈ l, boundOf (ownR rs b.1) = some b.2) → l = l.map ((fun n => (n, bdOf rs n)) ∘ (·.1)) := fun l => by
    induction l with
    | nil => intro _; rfl
    | cons b l more =>
      intro a
      rw [List.map_cons, ← more fun c hc => a c (List.mem_cons_of_mem _ hc)]
      show b :: l = (b.1, bdOf rs b.1) :: l
      rw [bdOf_eq (a b List.mem_cons_self)]
  exact this bs h.2
theorem noB_of {rs : List Row} (few : rs.length ≤ 8) (h : NoB rs) : okB rs = false := by
  cases e : okB rs with
  | false => rfl
  | true =>
    exfalso
    rcases h with ⟨n, hn, none_⟩ | ⟨bs, hb, big⟩
    · rw [okB_at e hn] at none_; cases none_
    · have a := neededL_len bs
      have b : bs.length = (sortU (rs.map (·.nm))).length := by rw [← hb.1, List.length_map]
      have c := sortU_len (rs.map (·.nm))
      rw [List.length_map] at c
      omega
/-- what normal says of rows -/
def normV (rs : List Row) : V := if okB rs = true then .str (selT (nrows (bsOf rs))) else .non
def sp_texts_of (K : PySem.W.Frag) : Sp := fun vs H Q _ => ∃ (n : Str) (p : Addr) (b : Bd), vs = [.str n, .ref p] ∧ BdAt H p b ∧ n.length ≤ 50 ∧ b.2.length ≤ 100 ∧ (∀ v ∈ b.2, v.length ≤ 50) ∧ (b.1 = .is → b.2 ≠ []) ∧
  ∀ (L : Addr) (H' : Hp), Same H H' → H L = none → H' L = some (.lst ((nrowsOf (n, b)).map fun r => V.str (rowT r))) → Q (.ref L) H'
theorem ok_texts_of {P : Program} {w : World} {K : PySem.W.Frag} {mg : Str → Option Value} {base : Heap} {fd : FuncData} (T : Txt K mg w) (F : FnP K "texts_of" s_texts_of [] fd) : FnOk P w K mg base CX0 1 (He.ga K "texts_of") fd ps_texts_of (sp_texts_of K) := by
  refine F.ok sc_texts_of (fun vs H Q E h => ?len) (fun cdv A outer s H vs Q E hr h => ?body)
  case len => obtain ⟨n, p, ⟨vb, vals⟩, rfl, ⟨q, gp, gq⟩, ln, lv, lvs, ne, k⟩ := h; rfl
  case body =>
  obtain ⟨n, p, ⟨vb, vals⟩, rfl, ⟨q, gp, gq⟩, ln, lv, lvs, ne, k⟩ := h
  have hu := hu_of hr
  refine ⟨_, PSs.nox (pss_cons (ps_asg (pv 1) (pg_tup rfl (pgs_cons (pg_name (i := 2) sc_texts_of.nd rfl (Or.inl rfl)) (pgs_cons (pg_name (i := 3) sc_texts_of.nd rfl (Or.inl rfl)) pgs_nil))))
    (pss_cons (ps_if (pt_cmpR op_eq (pv 2) pe_str (nomark _)) (pss_one (ps_ret (pe_lst (pa_cons (pe_joined (.cons (pe_fmt (pv 0)) (.cons pe_str (.cons (pe_fmt (pe_ix ix_list (pv 3) pe_int (fun _ _ => rfl))) .nil)))) pa_nil)))) pss_nil)
    (pss_cons (ps_if (pt_cmpR op_eq (pv 2) pe_str (nomark _)) (pss_one (ps_ret (pe_lst (pa_cons (pe_joined (.cons pe_str (.cons (pe_fmt (pv 0)) .nil))) pa_nil)))) pss_nil)
    (pss_one (ps_ret (pe_op op_cat (pe_op op_rep (pe_lst (pa_cons (pv 0) pa_nil)) (pe_callTy call_int1 (by rfl) T.n_int (by decide +kernel) (pa_cons (pe_cmpR op_eq (pv 2) pe_str (nomark _)) pa_nil))) (pe_lc (own := [("value", 4)]) rfl sc_texts_of.nd (pi_list (pv 3)) (blkOk_by (own := [("value", 4)]) (N := N_texts_of) (sc := defScope s_texts_of) (by decide +kernel)) (fun _ _ _ _ _ => (pg_name (i := 4) sc_texts_of.nd rfl (Or.inl rfl))) (fun _ _ _ _ _ => pts_nil) (fun _ _ _ _ _ => (pe_joined (.cons (pe_fmt (pv 0)) (.cons pe_str (.cons (pe_fmt (pv 4)) .nil)))))))))))), ?_⟩
  dsimp only at gp gq lv lvs ne
  have fit : ∀ z : Str, z.length ≤ 200 → z.length ≤ sizeLine := fun z h => smallN (by omega)
  have l1 : ("=" : Str).length = 1 := by decide +kernel
  have l2 : ("!=" : Str).length = 2 := by decide +kernel
  have l3 : ("!" : Str).length = 1 := by decide +kernel
  have l0 : (Str.empty : Str).length = 0 := by decide +kernel
  refine ⟨_, rfl, p, _, rfl, SqT.of gp, rfl, _, _, rfl, _, _, rfl, rfl, ?_⟩
  have notT : ∀ v : Str, (Str.empty ++ n ++ "!=" ++ v : Str) = rowT ⟨n, .not, v⟩ := fun v => rfl
  -- the last row of the text
  have rest : ∀ vb, vb = .there ∨ vb = .not → H p = some (.tup [.str (vT vb), .ref q]) → (∀ (L : Addr) (H' : Hp), Same H H' → H L = none → H' L = some (.lst ((nrowsOf (n, vb, vals)).map fun r => V.str (rowT r))) → Q (.ref L) H') →
      tRet (tOp rCat (tOp rRep (tLst (tCons (tVar 0) tNil)) (tCB (fun xs H Q => (∃ i, xs = [V.int i] ∧ Q (V.int i) H) ∨ ∃ k, xs = [V.bl k] ∧ Q (V.int (if k = true then 1 else 0)) H) (tCons (tOp rEq (tVar 2) (tC (.str "there"))) tNil)))
        (tLc (iList K (tVar 3)) (gName 4) tYes (fun σ H Q => tJs [tFmt (tVar 0), tC (.str "!="), tFmt (tVar 4)] Str.empty σ H fun out H1 => Q (V.str out) H1) [4]))
        { nx := fun x H' => Q V.non H', rt := Q } [some (.str n), some (.ref p), some (.str (vT vb)), some (.ref q), none] H := by
    intro vb hvb gp k
    refine ⟨_, rfl, smallN (by show 1 ≤ 1000; decide), fun p1 q1 => ?_⟩
    have S1 := Same.new (u := .lst [.str n]) q1
    have g1 : (upd H p1 (.lst [.str n])) p1 = _ := upd_same
    generalize upd H p1 (.lst [.str n]) = H1 at S1 g1 ⊢
    refine ⟨_, rfl, rfl, .inr ⟨_, rfl, p1, _, _, rfl, rfl, g1, (by split <;> decide), (by split <;> decide), (by split <;> exact smallN (by show _ * _ ≤ 1000; simp)), fun p2 q2 => ?_⟩⟩
    have S2 := Same.new (u := .lst (List.replicate ((if decide (V.str (vT vb) = V.str "there") = true then (1 : Int) else 0)).toNat [V.str n]).flatten) q2
    have g2 : (upd H1 p2 (.lst (List.replicate ((if decide (V.str (vT vb) = V.str "there") = true then (1 : Int) else 0)).toNat [V.str n]).flatten)) p2 = _ := upd_same
    generalize upd H1 p2 (.lst (List.replicate ((if decide (V.str (vT vb) = V.str "there") = true then (1 : Int) else 0)).toNat [V.str n]).flatten) = H2 at S2 g2 ⊢
    have S12 := S1.trans S2
    refine ⟨_, rfl, q, rfl, ⟨_, SqL.of (S12 _ _ gq)⟩, fun D hD => ?_⟩
    refine lc_list (K := K) (a := q) (xs := vals.map V.str) (g := gName 4) (tt := tYes) (te := fun σ H Q => tJs [tFmt (tVar 0), tC (.str "!="), tFmt (tVar 4)] Str.empty σ H fun out H1 => Q (V.str out) H1) (vs := [4]) (σ := [some (.str n), some (.ref p), some (.str (vT vb)), some (.ref q), none]) (fun i H' => Same H2 H' ∧ H' D = some (.lst ((vals.take i).map fun v => V.str (rowT ⟨n, .not, v⟩)))) ⟨Same.new hD, upd_same⟩ (fun i H' _ p => SqL.of (p.1 _ _ (S12 _ _ gq))) ?_ ?_
    · rintro i x H3 hx ⟨S3, gD⟩
      rw [List.getElem?_map] at hx
      obtain ⟨v, ev, rfl⟩ := Option.map_eq_some_iff.mp hx
      have lv1 := lvs v (mem_at ev)
      refine ⟨rfl, yes_ (iteT ?_)⟩
      refine ⟨_, rfl, .inl ⟨n, rfl, fit _ (by omega), n, rfl, fit _ (by rw [strLen_append]; omega), "!=", rfl, fit _ (by rw [strLen_append, strLen_append]; omega), _, rfl, .inl ⟨v, rfl, fit _ (by omega), v, rfl, fit _ (by rw [strLen_append, strLen_append, strLen_append]; omega), ?_⟩⟩⟩
      refine ⟨_, gD, small1000 (by rw [List.length_map, List.length_take]; omega), fun b o hb => ?_, ?_⟩
      · rw [upd_ne (ne_of_none hb hD)]; exact S3 b o hb
      · rw [upd_same, get_take ev, List.map_append]; rfl
    · rintro H3 ⟨S3, gD⟩
      rw [List.length_map, List.take_length] at gD
      refine ⟨p2, D, _, _, rfl, rfl, S3 _ _ g2, gD, smallN ?_, fun L hL => k L _ (S12.trans (S3.trans (Same.new hL))) ((S12.trans S3).free hL) ?_⟩
      · rcases hvb with rfl | rfl
        · show 1 + _ ≤ 1000; rw [List.length_map]; omega
        · show 0 + _ ≤ 1000; rw [List.length_map]; omega
      · rw [upd_same]
        rcases hvb with rfl | rfl
        · have e : rowT ⟨n, .there, ""⟩ = n := by show "" ++ n ++ "" ++ "" = n; rw [none_app, app_none, app_none]
          show some (HO.lst (V.str n :: _)) = some (HO.lst (V.str (rowT ⟨n, .there, ""⟩) :: ((vals.map fun v => (⟨n, .not, v⟩ : Row)).map fun r => V.str (rowT r))))
          rw [e, List.map_map]; rfl
        · show some (HO.lst (List.map _ vals)) = some (HO.lst ((vals.map fun v => (⟨n, .not, v⟩ : Row)).map fun r => V.str (rowT r)))
          rw [List.map_map]; rfl
  cases vb with
  | is =>
    refine ⟨_, rfl, rfl, _, rfl, iteT ?_⟩
    obtain ⟨x, xs, rfl⟩ := List.exists_cons_of_ne_nil (ne rfl)
    have lx := lvs x List.mem_cons_self
    refine ⟨_, rfl, .inl ⟨n, rfl, fit _ (by omega), n, rfl, fit _ (by rw [strLen_append]; omega), "=", rfl, fit _ (by rw [strLen_append, strLen_append]; omega), _, rfl, q, _, 0, .str x, rfl, rfl, SqL.of gq, atI_nat (j := 0) rfl, .inl ⟨x, rfl, fit _ (by omega), x, rfl, fit _ (by rw [strLen_append, strLen_append, strLen_append]; omega), ?_⟩⟩⟩
    exact ⟨smallN (by show 1 ≤ 1000; decide), fun L hL => k L _ (Same.new hL) hL upd_same⟩
  | missing =>
    refine ⟨_, rfl, rfl, _, rfl, iteF ⟨_, rfl, rfl, _, rfl, iteT ?_⟩⟩
    refine ⟨"!", rfl, fit _ (by rw [strLen_append]; omega), _, rfl, .inl ⟨n, rfl, fit _ (by omega), n, rfl, fit _ (by rw [strLen_append, strLen_append]; omega), ?_⟩⟩
    refine ⟨smallN (by show 1 ≤ 1000; decide), fun L hL => k L _ (Same.new hL) hL ?_⟩
    have e : rowT ⟨n, .missing, ""⟩ = (Str.empty ++ "!" ++ n : Str) := by show "!" ++ n ++ "" ++ "" = ("" ++ "!" ++ n : Str); rw [none_app, app_none, app_none]
    show _ = some (HO.lst [V.str (rowT ⟨n, .missing, ""⟩)])
    rw [e, upd_same]
  | there => exact ⟨_, rfl, rfl, _, rfl, iteF ⟨_, rfl, rfl, _, rfl, iteF (rest .there (.inl rfl) gp k)⟩⟩
  | not => exact ⟨_, rfl, rfl, _, rfl, iteF ⟨_, rfl, rfl, _, rfl, iteF (rest .not (.inr rfl) gp k)⟩⟩
theorem bsD_names : ∀ {bs : List (Str × Bd)} {ps : List Addr}, ps.length = bs.length → (BsD bs ps).map (·.1) = (bs.map (·.1)).map Sum.inr
  | [], [], _ => rfl
  | [], _ :: _, h => nomatch h
  | _ :: _, [], h => nomatch h
  | b :: bs, p :: ps, h => by
    show Sum.inr b.1 :: (BsD bs ps).map (·.1) = Sum.inr b.1 :: (bs.map (·.1)).map Sum.inr
    rw [bsD_names (by simpa using h)]
theorem nrows_snoc (bs : List (Str × Bd)) (b : Str × Bd) : nrows (bs ++ [b]) = nrows bs ++ nrowsOf b := by unfold nrows; rw [List.flatMap_append, List.flatMap_cons, List.flatMap_nil, List.append_nil]
theorem rows_sum {l : List Row} (h : ∀ r ∈ l, r ∈ allRows) : ((l.map rowT).map (·.length)).sum ≤ l.length * 50 := by
  induction l with
  | nil => exact Nat.le_refl 0
  | cons r l ih =>
    have h1 := ih fun z hz => h z (List.mem_cons_of_mem _ hz)
    have h2 := (row_f (h r (List.mem_cons_self ..))).lt
    rw [List.map_cons, List.map_cons, List.sum_cons, List.length_cons]
    omega
theorem need8 {bs : List (Str × Bd)} (few : bs.length ≤ 8) (h : (neededL bs).length = 8) : neededL bs = bs.map (·.1) := by
  unfold neededL neededB at h ⊢
  rw [List.length_map] at h
  have := List.length_filter_le (fun b : Str × Bd => needV b.2.1) bs
  have e : bs.filter (fun b => needV b.2.1) = bs := List.Sublist.eq_of_length List.filter_sublist (by omega)
  rw [e]
theorem isB_few {rs : List Row} {bs : List (Str × Bd)} (h : IsB rs bs) : bs.length ≤ rs.length := by
  have b : bs.length = (sortU (rs.map (·.nm))).length := by rw [← h.1, List.length_map]
  have c := sortU_len (rs.map (·.nm))
  rw [List.length_map] at c
  omega
def sp_normal (K : PySem.W.Frag) : Sp := fun vs H Q _ => ∃ (rows : List Row), vs = [.str (selT rows)] ∧ Rows8 rows ∧ ∀ (H' : Hp), Same H H' → Q (normV rows) H'
theorem ok_normal {P : Program} {w : World} {K : PySem.W.Frag} {mg : Str → Option Value} {base : Heap} {fd : FuncData} (T : Txt K mg w) (F : FnP K "normal" s_normal [] fd) : FnOk P w K mg base CX0 6 (He.ga K "normal") fd ps_normal (sp_normal K) := by
  obtain ⟨fd_bounds_of, F_bounds_of⟩ := T.d_bounds_of
  have G_bounds_of := ok_bounds_of (P := P) (w := w) (base := base) T F_bounds_of
  have k_bounds_of := F_bounds_of.kp
  have b_bounds_of := bi_bounds_of F_bounds_of
  obtain ⟨fd_requirements, F_requirements⟩ := T.d_requirements
  have G_requirements := ok_requirements (P := P) (w := w) (base := base) T F_requirements
  have k_requirements := F_requirements.kp
  have b_requirements := bi_requirements F_requirements
  obtain ⟨fd_needed, F_needed⟩ := T.d_needed
  have G_needed := ok_needed (P := P) (w := w) (base := base) T F_needed
  have k_needed := F_needed.kp
  have b_needed := bi_needed F_needed
  obtain ⟨fd_texts_of, F_texts_of⟩ := T.d_texts_of
  have G_texts_of := ok_texts_of (P := P) (w := w) (base := base) T F_texts_of
  have k_texts_of := F_texts_of.kp
  have b_texts_of := bi_texts_of F_texts_of
  obtain ⟨t_MOST_LABELS, h_MOST_LABELS⟩ := T.c_MOST_LABELS
  refine F.ok sc_normal (fun vs H Q E h => ?len) (fun cdv A outer s H vs Q E hr h => ?body)
  case len => obtain ⟨rows, rfl, h8, k⟩ := h; rfl
  case body =>
  obtain ⟨rows, rfl, h8, k⟩ := h
  have hu := hu_of hr
  refine ⟨_, PSs.nox (pss_cons (ps_set (i := 1) sc_normal.nd rfl (Or.inr rfl) (pe_call G_bounds_of (hr.mono (by first | decide | omega)) rfl T.g_bounds_of k_bounds_of b_bounds_of .nil pass0 (pa_cons (pe_call G_requirements (hr.mono (by first | decide | omega)) rfl T.g_requirements k_requirements b_requirements .nil pass0 (pa_cons (pv 0) pa_nil)) pa_nil)))
    (pss_cons (ps_if (pt_cmpR op_isN (pv 1) pe_non (nomark _)) (pss_one (ps_ret pe_non)) pss_nil)
    (pss_cons (ps_set (i := 2) sc_normal.nd rfl (Or.inl rfl) (pe_ifExp (pt_cmpR op_eq (pe_callB call_len_seq (by rfl) T.n_len (by decide +kernel) (pa_cons (pe_call G_needed (hr.mono (by first | decide | omega)) rfl T.g_needed k_needed b_needed .nil pass0 (pa_cons (pv 1) pa_nil)) pa_nil)) (pe_glob (v := .int 8) rfl h_MOST_LABELS ⟨_, rfl⟩) (nomark _)) (pe_call G_needed (hr.mono (by first | decide | omega)) rfl T.g_needed k_needed b_needed .nil pass0 (pa_cons (pv 1) pa_nil)) (pe_callB (call_sortedD rfl) (by rfl) T.n_sorted (by decide +kernel) (pa_cons (pv 1) pa_nil))))
    (pss_one (ps_ret (pe_join pe_str (pe_lc2 (own := [("name", 3), ("text", 4)]) (vs1 := [4]) rfl sc_normal.nd (pi_list (pv 2)) (blkOk_by (own := [("name", 3), ("text", 4)]) (N := N_normal) (sc := defScope s_normal) (by decide +kernel)) (by decide) (fun _ _ _ _ _ => (pg_name (i := 3) sc_normal.nd rfl (Or.inl rfl))) (fun _ _ _ _ _ => pts_nil) (fun _ _ _ _ _ => (pi_listK (K := K) rfl (pe_call G_texts_of (hr.mono (by first | decide | omega)) rfl T.g_texts_of k_texts_of b_texts_of .nil pass0 (pa_cons (pv 3) (pa_cons (pe_dget hu (pv 1) (pv 3) (fun _ _ => rfl)) pa_nil))))) (fun _ _ _ _ _ => (pg_name (i := 4) sc_normal.nd rfl (Or.inl rfl))) (fun _ _ _ _ _ => pts_nil) (fun _ _ _ _ _ => (pv 4))))))))), ?_⟩
  refine ⟨_, rfl, rows, rfl, h8, fun L H1 S1 fL R1 => ⟨L, rows, rfl, R1, by have := h8.1; omega, fun nob H2 S2 => ?_, fun bs d H2 ib need S2 fd B2 => ?_⟩⟩
  · refine ⟨_, rfl, rfl, _, rfl, iteT ?_⟩
    have := k H2 (S1.trans S2)
    unfold normV at this
    rw [noB_of h8.1 nob] at this
    exact this
  refine ⟨_, rfl, rfl, _, rfl, iteF ?_⟩
  have k2 : ∀ H', Same H2 H' → Q (.str (selT (nrows bs))) H' := fun H' S' => by
    have := k H' (S1.trans (S2.trans S'))
    unfold normV at this
    rw [isB_ok ib, if_pos rfl, ← isB_eq ib] at this
    exact this
  have few := isB_few ib
  have once := isB_once ib
  have n8 := nrows8 ib h8
  have f8 := h8.1
  have lt : ∀ i, (nrows (bs.take i)).length ≤ 8 := fun i => by
    have e : nrows bs = nrows (bs.take i) ++ nrows (bs.drop i) := by unfold nrows; rw [← List.flatMap_append, List.take_append_drop]
    have q := congrArg List.length e
    rw [List.length_append] at q
    have := n8.1
    omega
  have fin : ∀ (pn : Addr) (H3 : Hp), Same H2 H3 → H3 pn = some (.lst ((bs.map (·.1)).map V.str)) →
      tRet (tM1 (fun x xs H_1 Q => ∃ a p ys, x = V.str a ∧ xs = [V.ref p] ∧ (SqL K H_1 p (List.map V.str ys) ∨ SqT K H_1 p (List.map V.str ys)) ∧ (List.map (fun x => x.length) ys).sum + ys.length * a.length ≤ 16777216 ∧ Q (V.str (Txt.join a ys)) H_1) (tC (V.str ","))
        (tLc2 (iList K (tVar 2)) (gName 3) tYes (iList K (tCall (sp_texts_of K) [] E0 (tCons (tVar 3) (tCons (tDGet (tVar 1) (tVar 3)) tNil)))) (gName 4) tYes (tVar 4) [3, 4] [4]))
        { nx := fun x H' => Q V.non H', rt := Q } [some (.str (selT rows)), some (.ref d), some (.ref pn), none, none] H3 := by
    intro pn H3 S3 gn
    refine ⟨⟨_, rfl⟩, _, rfl, pn, rfl, ⟨_, SqL.of gn⟩, fun D hD => ?_⟩
    obtain ⟨ps, gd, hps⟩ := bs_same S3 B2
    have lp : ps.length = bs.length := by rw [paired_len hps, List.length_map]
    refine turns (walk_list (xs := (bs.map (·.1)).map V.str)) (fun i H' => Same H3 H' ∧ H' D = some (.lst ((nrows (bs.take i)).map fun r => V.str (rowT r)))) ⟨Same.new hD, upd_same⟩ (fun _ p => SqL.of (p.1 _ _ gn)) ?_ ?_
    · rintro i H4 x H5 hi ⟨S4, gD⟩ ⟨rfl, hx⟩
      rw [List.length_map, List.length_map] at hi
      obtain ⟨b, hb⟩ : ∃ b, bs[i]? = some b := ⟨_, List.getElem?_eq_getElem hi⟩
      obtain ⟨p, ep⟩ : ∃ p, ps[i]? = some p := ⟨_, List.getElem?_eq_getElem (by omega)⟩
      obtain ⟨b', hb', hp1⟩ := paired_at hps ep
      obtain rfl : b' = b.2 := by rw [List.getElem?_map, hb] at hb'; exact (Option.some.inj hb').symm
      rw [List.getElem?_map, List.getElem?_map, hb] at hx
      obtain rfl : V.str b.1 = x := Option.some.inj hx
      have ms := mem_at hb
      obtain ⟨r, hr, er⟩ := List.mem_map.mp (isB_in ib ms)
      have ln : b.1.length ≤ 50 := by rw [← er]; exact (row_f (h8.2 r hr)).ln
      obtain ⟨v1, v2, v3⟩ := isB_vals ib ms
      have hg : DGet H5 d (.str b.1) (some (.ref p)) := by
        have := DGet.k (k := Sum.inr b.1) (S4 _ _ gd)
        rw [bsD_val once hb ep] at this
        exact this
      refine ⟨rfl, yes_ (iteT ?_)⟩
      refine ⟨_, rfl, _, rfl, _, rfl, d, _, rfl, hg, b.1, p, b.2, rfl, bd_same S4 hp1, ln, by omega, fun v hv => ?_, v2, fun T H6 S6 fT gT => ?_⟩
      · obtain ⟨q, hq, eq⟩ := v3 v hv
        rw [← eq]
        exact (row_f (h8.2 q hq)).lv
      · have gD6 := S6 _ _ gD
        have l1 := lt (i + 1)
        rw [get_take hb, nrows_snoc, List.length_append] at l1
        refine ⟨T, rfl, ⟨_, SqL.of gT⟩, ?_⟩
        refine turns (walk_list (xs := (nrowsOf (b.1, b.2)).map fun r => V.str (rowT r))) (fun j H' => Same H3 H' ∧ H' T = some (.lst ((nrowsOf (b.1, b.2)).map fun r => V.str (rowT r))) ∧ H' D = some (.lst ((nrows (bs.take i) ++ (nrowsOf b).take j).map fun r => V.str (rowT r)))) ⟨S4.trans S6, gT, by rw [List.take_zero, List.append_nil]; exact gD6⟩ (fun _ p => SqL.of p.2.1) ?_ ?_
        · rintro j H7 x _ hj ⟨S7, gT7, gD7⟩ ⟨rfl, hx⟩
          rw [List.getElem?_map] at hx
          obtain ⟨q, hq, rfl⟩ := Option.map_eq_some_iff.mp hx
          have nT : T ≠ D := (ne_of_none gD fT).symm
          refine ⟨rfl, yes_ (iteT ⟨_, rfl, _, gD7, small1000 ?_, fun a o ha => ?_, ?_, ?_⟩)⟩
          · rw [List.length_map, List.length_append, List.length_take]; omega
          · rw [upd_ne (ne_of_none ha hD)]; exact S7 _ _ ha
          · rw [upd_ne nT]; exact gT7
          · rw [upd_same, get_take (xs := nrowsOf b) hq, ← List.append_assoc]; simp only [List.map_append]; rfl
        · rintro H7 ⟨S7, gT7, gD7⟩
          refine ⟨S7, ?_⟩
          rw [List.length_map] at gD7
          rw [get_take hb, nrows_snoc, gD7, show (nrowsOf (b.1, b.2)).length = (nrowsOf b).length from rfl, List.take_length]
    · rintro H4 ⟨S4, gD⟩
      rw [List.length_map, List.length_map, List.take_length] at gD
      have gD2 : H4 D = some (.lst (((nrows bs).map rowT).map V.str)) := by rw [gD, List.map_map]; rfl
      refine ⟨_, D, (nrows bs).map rowT, rfl, rfl, .inl (SqL.of gD2), ?_, k2 H4 (S3.trans S4)⟩
      have q1 := rows_sum n8.2
      have q2 : (",":Str).length = 1 := by decide +kernel
      have := n8.1
      rw [List.length_map, q2]
      omega
  refine ⟨_, rfl, d, bs, rfl, B2, by omega, fun p H3 S3 gp => ⟨p, _, rfl, .inl (SqL.of gp), rfl, _, rfl, ?_⟩⟩
  refine iteE (b := decide ((neededL bs).length = 8)) (decide_eq_decide.mpr ?_) (fun h => ?_) (fun h => ?_)
  · rw [List.length_map]
    exact ⟨fun z => by injection z with z; omega, fun z => by rw [z]; rfl⟩
  · refine ⟨_, rfl, d, bs, rfl, bs_same S3 B2, by omega, fun p' H4 S4 gp' => ?_⟩
    rw [need8 (by omega) (of_decide_eq_true h)] at gp'
    exact fin p' H4 (S3.trans S4) gp'
  · obtain ⟨ps, gd, hps⟩ := bs_same S3 B2
    have lp : ps.length = bs.length := by rw [paired_len hps, List.length_map]
    refine ⟨_, rfl, d, _, bs.map (·.1), rfl, .inl gd, ?_, by rw [List.length_map]; omega, fun ys p' hperm hs hp' => ?_⟩
    · exact bsD_names lp
    · have e : ys = bs.map (·.1) := by
        rw [ib.1] at hperm ⊢
        exact sortedS_one hperm hs (List.Perm.refl _) (srt_sorted _)
      subst e
      exact fin p' _ (S3.trans (Same.new hp')) upd_same

/-! ### meets, covers -/
theorem paired_join {α β : Type} {F : α → β → Prop} : ∀ {xs : List α} {ys : List β} {xs' : List α} {ys' : List β}, Paired F xs ys → Paired F xs' ys' → Paired F (xs ++ xs') (ys ++ ys')
  | _, _, _, _, .nil, h => h
  | _, _, _, _, .cons r t, h => .cons r (paired_join t h)
/-- two lists of rows put together in a new list -/
theorem rows_cat {H : Hp} {L1 L2 L3 : Addr} {r1 r2 : List Row} {p1 p2 : List Addr} (h1 : Paired (RowAt H) p1 r1) (h2 : Paired (RowAt H) p2 r2) (n : H L3 = none) : RowsAt (upd H L3 (.lst (p1.map V.ref ++ p2.map V.ref))) L3 (r1 ++ r2) :=
  ⟨p1 ++ p2, by rw [upd_same, List.map_append], Paired.mono (fun _ _ q => Same.new n _ _ q) (paired_join h1 h2)⟩
def sp_meets (K : PySem.W.Frag) : Sp := fun vs H Q _ => ∃ (r1 r2 : List Row), vs = [.str (selT r1), .str (selT r2)] ∧ Rows8 r1 ∧ Rows8 r2 ∧ (NoB (r1 ++ r2) → ∀ H', Same H H' → Q .non H') ∧
  ∀ (bs : List (Str × Bd)) (p : Addr) (H' : Hp), IsB (r1 ++ r2) bs → (neededL bs).length ≤ 8 → Same H H' → H p = none → H' p = some (.dK (labD (labelsF bs))) → Q (.ref p) H'
theorem ok_meets {P : Program} {w : World} {K : PySem.W.Frag} {mg : Str → Option Value} {base : Heap} {fd : FuncData} (T : Txt K mg w) (F : FnP K "meets" s_meets [] fd) : FnOk P w K mg base CX0 5 (He.ga K "meets") fd ps_meets (sp_meets K) := by
  obtain ⟨fd_bounds_of, F_bounds_of⟩ := T.d_bounds_of
  have G_bounds_of := ok_bounds_of (P := P) (w := w) (base := base) T F_bounds_of
  have k_bounds_of := F_bounds_of.kp
  have b_bounds_of := bi_bounds_of F_bounds_of
  obtain ⟨fd_labels_for, F_labels_for⟩ := T.d_labels_for
  have G_labels_for := ok_labels_for (P := P) (w := w) (base := base) T F_labels_for
  have k_labels_for := F_labels_for.kp
  have b_labels_for := bi_labels_for F_labels_for
  obtain ⟨fd_requirements, F_requirements⟩ := T.d_requirements
  have G_requirements := ok_requirements (P := P) (w := w) (base := base) T F_requirements
  have k_requirements := F_requirements.kp
  have b_requirements := bi_requirements F_requirements
  refine F.ok sc_meets (fun vs H Q E h => ?len) (fun cdv A outer s H vs Q E hr h => ?body)
  case len => obtain ⟨r1, r2, rfl, h1, h2, k0, k1⟩ := h; rfl
  case body =>
  obtain ⟨r1, r2, rfl, h1, h2, k0, k1⟩ := h
  have hu := hu_of hr
  refine ⟨_, PSs.nox (pss_cons (ps_set (i := 2) sc_meets.nd rfl (Or.inl rfl) (pe_call G_bounds_of (hr.mono (by first | decide | omega)) rfl T.g_bounds_of k_bounds_of b_bounds_of .nil pass0 (pa_cons (pe_op op_cat (pe_call G_requirements (hr.mono (by first | decide | omega)) rfl T.g_requirements k_requirements b_requirements .nil pass0 (pa_cons (pv 0) pa_nil)) (pe_call G_requirements (hr.mono (by first | decide | omega)) rfl T.g_requirements k_requirements b_requirements .nil pass0 (pa_cons (pv 1) pa_nil))) pa_nil)))
    (pss_one (ps_ret (pe_ifExp (pt_cmpR op_isN (pv 2) pe_non (nomark _)) pe_non (pe_call G_labels_for (hr.mono (by first | decide | omega)) rfl T.g_labels_for k_labels_for b_labels_for .nil pass0 (pa_cons (pv 2) pa_nil)))))), ?_⟩
  refine ⟨_, rfl, r1, rfl, h1, fun L1 H1 S1 n1 R1 => ⟨_, rfl, r2, rfl, h2, fun L2 H2 S2 n2 R2 => ?_⟩⟩
  obtain ⟨p1, g1, q1⟩ := rows_same S2 R1
  obtain ⟨p2, g2, q2⟩ := R2
  have l1 := paired_len q1
  have l2 := paired_len q2
  have few : (r1 ++ r2).length ≤ 16 := by rw [List.length_append]; have := h1.1; have := h2.1; omega
  refine ⟨L1, L2, _, _, rfl, rfl, g1, g2, smallN (by rw [List.length_map, List.length_map, l1, l2]; rw [List.length_append] at few; omega), fun L3 n3 => ?_⟩
  have S3 := S1.trans (S2.trans (Same.new (u := .lst (p1.map V.ref ++ p2.map V.ref)) n3))
  refine ⟨L3, r1 ++ r2, rfl, rows_cat (L1 := L1) (L2 := L2) q1 q2 n3, by omega, fun nob H4 S4 => ?_, fun bs d H4 isb need S4 free at_ => ?_⟩
  · exact ⟨_, rfl, rfl, _, rfl, iteT (k0 nob H4 (S3.trans S4))⟩
  · refine ⟨_, rfl, rfl, _, rfl, iteF ⟨_, rfl, d, bs, rfl, at_, ?_, isB_once isb, fun b hb => ?_, fun p H5 S5 fp gp => ?_⟩⟩
    · have := congrArg List.length isb.1
      have l := sortU_len ((r1 ++ r2).map (·.nm))
      rw [List.length_map] at this l
      omega
    · obtain ⟨a, b, _⟩ := isB_vals isb hb
      exact ⟨by omega, b⟩
    · exact k1 bs p H5 isb need (S3.trans (S4.trans S5)) (S3.free (S4.free fp)) gp
def sp_covers (K : PySem.W.Frag) : Sp := fun vs H Q _ => ∃ (r1 r2 : List Row), vs = [.str (selT r1), .str (selT r2)] ∧ Rows8 r1 ∧ Rows8 r2 ∧ ((∀ r ∈ r1, NoB (r2 ++ [oppR r])) → ∀ H', Same H H' → Q .non H') ∧
  ∀ (r : Row) (bs : List (Str × Bd)) (p : Addr) (H' : Hp), r ∈ r1 → IsB (r2 ++ [oppR r]) bs → (neededL bs).length ≤ 8 → Same H H' → H p = none → H' p = some (.dK (labD (labelsF bs))) → Q (.ref p) H'
theorem ok_covers {P : Program} {w : World} {K : PySem.W.Frag} {mg : Str → Option Value} {base : Heap} {fd : FuncData} (T : Txt K mg w) (F : FnP K "covers" s_covers [] fd) : FnOk P w K mg base CX0 5 (He.ga K "covers") fd ps_covers (sp_covers K) := by
  obtain ⟨fd_requirements, F_requirements⟩ := T.d_requirements
  have G_requirements := ok_requirements (P := P) (w := w) (base := base) T F_requirements
  have k_requirements := F_requirements.kp
  have b_requirements := bi_requirements F_requirements
  obtain ⟨fd_bounds_of, F_bounds_of⟩ := T.d_bounds_of
  have G_bounds_of := ok_bounds_of (P := P) (w := w) (base := base) T F_bounds_of
  have k_bounds_of := F_bounds_of.kp
  have b_bounds_of := bi_bounds_of F_bounds_of
  obtain ⟨fd_labels_for, F_labels_for⟩ := T.d_labels_for
  have G_labels_for := ok_labels_for (P := P) (w := w) (base := base) T F_labels_for
  have k_labels_for := F_labels_for.kp
  have b_labels_for := bi_labels_for F_labels_for
  refine F.ok sc_covers (fun vs H Q E h => ?len) (fun cdv A outer s H vs Q E hr h => ?body)
  case len => obtain ⟨r1, r2, rfl, h1, h2, k0, k1⟩ := h; rfl
  case body =>
  obtain ⟨r1, r2, rfl, h1, h2, k0, k1⟩ := h
  have hu := hu_of hr
  refine ⟨_, PSs.nox (pss_cons (ps_par (i := 2) (j := 3) (by rfl) sc_covers.nd rfl rfl (by decide) rfl rfl (pa_cons (pe_call G_requirements (hr.mono (by first | decide | omega)) rfl T.g_requirements k_requirements b_requirements .nil pass0 (pa_cons (pv 0) pa_nil)) (pa_cons (pe_call G_requirements (hr.mono (by first | decide | omega)) rfl T.g_requirements k_requirements b_requirements .nil pass0 (pa_cons (pv 1) pa_nil)) pa_nil)) (by rfl))
    (pss_cons (ps_for PassesOwn.never rfl (pi_list (pv 2)) (pg_tup rfl (pgs_cons (pg_name (i := 4) sc_covers.nd rfl (Or.inl rfl)) (pgs_cons (pg_name (i := 5) sc_covers.nd rfl (Or.inl rfl)) (pgs_cons (pg_name (i := 6) sc_covers.nd rfl (Or.inl rfl)) pgs_nil))))
      (pss_cons (ps_set (i := 7) sc_covers.nd rfl (Or.inl rfl) (pe_call G_bounds_of (hr.mono (by first | decide | omega)) rfl T.g_bounds_of k_bounds_of b_bounds_of .nil pass0 (pa_cons (pe_op op_cat (pv 3) (pe_lst (pa_cons (pe_tup (pa_cons (pv 4) (pa_cons (pe_ix ix_kdict (pe_glob (v := .ref (He.ga K "OPPOSITE")) rfl T.g_OPPOSITE rfl) (pv 5) (fun _ _ => rfl)) (pa_cons (pv 6) pa_nil)))) pa_nil))) pa_nil)))
        (pss_one (ps_if (pt_cmpR op_notN (pv 7) pe_non (nomark _)) (pss_one (ps_ret (pe_call G_labels_for (hr.mono (by first | decide | omega)) rfl T.g_labels_for k_labels_for b_labels_for .nil pass0 (pa_cons (pv 7) pa_nil)))) pss_nil))))
    (pss_one (ps_ret pe_non)))), ?_⟩
  have O := exT T.ex
  have opp : ∀ v : Verb, KDct K w (He.ga K "OPPOSITE") (vT v) (.str (vT (oppV v))) := fun v => by
    cases v with
    | is => exact kdct_of T.kd_OPPOSITE O.val_OPPOSITE (q := ("is", .str "not")) (by simp)
    | not => exact kdct_of T.kd_OPPOSITE O.val_OPPOSITE (q := ("not", .str "is")) (by simp)
    | there => exact kdct_of T.kd_OPPOSITE O.val_OPPOSITE (q := ("there", .str "missing")) (by simp)
    | missing => exact kdct_of T.kd_OPPOSITE O.val_OPPOSITE (q := ("missing", .str "there")) (by simp)
  refine ⟨_, rfl, r1, rfl, h1, fun L1 H1 S1 n1 R1 => ⟨_, rfl, r2, rfl, h2, fun L2 H2 S2 n2 R2 => ?_⟩⟩
  obtain ⟨p1, g1, q1⟩ := rows_same S2 R1
  obtain ⟨p2, g2, q2⟩ := R2
  have l1 := paired_len q1
  have l2 := paired_len q2
  have SA := S1.trans S2
  have few1 := h1.1
  have few2 := h2.1
  refine ⟨_, _, rfl, ?_⟩
  refine ⟨_, rfl, L1, rfl, ⟨_, SqL.of g1⟩, for_list (K := K) (a := L1) (xs := p1.map V.ref) (fun i σ H' => ∃ (v4 v5 v6 v7 : Option V), σ = [some (.str (selT r1)), some (.str (selT r2)), some (.ref L1), some (.ref L2), v4, v5, v6, v7] ∧ Same H2 H' ∧ ∀ r ∈ r1.take i, NoB (r2 ++ [oppR r]))
    ⟨_, _, _, _, rfl, Same.refl _, by simp⟩ (fun i σ H' _ ⟨_, _, _, _, _, S, _⟩ => SqL.of (S _ _ g1)) ?_ ?_⟩
  · rintro i x σ H3 hx ⟨v4, v5, v6, v7, rfl, S3, nob⟩
    rw [List.getElem?_map] at hx
    obtain ⟨p, ep, rfl⟩ := Option.map_eq_some_iff.mp hx
    obtain ⟨r, er, hr1⟩ := paired_at q1 ep
    have hm := mem_at er
    refine ⟨p, _, rfl, SqT.of (S3 _ _ hr1), rfl, _, _, rfl, _, _, rfl, _, _, rfl, rfl, ?_⟩
    refine ⟨_, rfl, _, rfl, _, rfl, _, _, _, rfl, rfl, opp r.vb, _, rfl, smallN (by show 3 ≤ 1000; decide), fun pt qt => ⟨smallN (by show 1 ≤ 1000; decide), fun pl ql => ?_⟩⟩
    have St := Same.new (u := .tup [.str r.nm, .str (vT (oppV r.vb)), .str r.vl]) qt
    have gt : RowAt (upd H3 pt (.tup [.str r.nm, .str (vT (oppV r.vb)), .str r.vl])) pt (oppR r) := upd_same
    generalize upd H3 pt (.tup [.str r.nm, .str (vT (oppV r.vb)), .str r.vl]) = H4 at St gt ql ⊢
    have Sl := Same.new (u := .lst [.ref pt]) ql
    have gl : (upd H4 pl (.lst [.ref pt])) pl = some (.lst ([pt].map V.ref)) := upd_same
    generalize upd H4 pl (.lst [.ref pt]) = H5 at Sl gl ⊢
    have S35 := St.trans Sl
    have S25 := S3.trans S35
    refine ⟨L2, pl, _, _, rfl, rfl, S25 _ _ g2, gl, smallN (by rw [List.length_map, l2]; show _ + 1 ≤ 1000; omega), fun pc qc => ?_⟩
    have hq : Paired (RowAt H5) [pt] [oppR r] := .cons (Sl _ _ gt) .nil
    have R := rows_cat (L1 := L2) (L2 := pl) (Paired.mono (fun (a : Addr) (c : Row) (q : RowAt H2 a c) => (S25 _ _ q : RowAt H5 a c)) q2) hq qc
    have Sc := Same.new (u := .lst (p2.map V.ref ++ [pt].map V.ref)) qc
    have len : (r2 ++ [oppR r]).length ≤ 9 := by rw [List.length_append]; show _ + 1 ≤ 9; omega
    refine ⟨pc, r2 ++ [oppR r], rfl, R, by omega, fun no H6 S6 => ?_, fun bs d H6 isb need S6 free at_ => ?_⟩
    · refine ⟨_, rfl, rfl, _, rfl, iteF ⟨_, _, _, _, rfl, S3.trans (S35.trans (Sc.trans S6)), fun c hc => ?_⟩⟩
      rw [get_take er] at hc
      rcases List.mem_append.mp hc with hc | hc
      · exact nob c hc
      · rw [List.mem_singleton.mp hc]; exact no
    · refine ⟨_, rfl, rfl, _, rfl, iteT ⟨_, rfl, d, bs, rfl, at_, ?_, isB_once isb, fun b hb => ?_, fun p H7 S7 fp gp => ?_⟩⟩
      · have := congrArg List.length isb.1
        have l := sortU_len ((r2 ++ [oppR r]).map (·.nm))
        rw [List.length_map] at this l
        omega
      · obtain ⟨a, b, _⟩ := isB_vals isb hb
        exact ⟨by omega, b⟩
      · have S27 := SA.trans (S25.trans (Sc.trans S6))
        exact k1 r bs p H7 hm isb need (S27.trans S7) (S27.free fp) gp
  · rintro σ H3 ⟨v4, v5, v6, v7, rfl, S3, nob⟩
    rw [List.length_map, l1, List.take_length] at nob
    exact k0 nob H3 (SA.trans S3)

/-! ### the law's own draws -/
theorem row_mem {n v : Str} (hn : n ∈ names4) (hv : v ∈ vals8) : (⟨n, .is, v⟩ : Row) ∈ allRows ∧ (⟨n, .not, v⟩ : Row) ∈ allRows ∧ (⟨n, .there, ""⟩ : Row) ∈ allRows ∧ (⟨n, .missing, ""⟩ : Row) ∈ allRows := by
  refine ⟨?_, ?_, ?_, ?_⟩ <;> refine List.mem_flatMap.mpr ⟨n, hn, ?_⟩
  · exact List.mem_append_left _ (List.mem_flatMap.mpr ⟨v, hv, by simp⟩)
  · exact List.mem_append_left _ (List.mem_flatMap.mpr ⟨v, hv, by simp⟩)
  · exact List.mem_append_right _ (by simp)
  · exact List.mem_append_right _ (by simp)
theorem x24 : strRep "x" 24 = ("xxxxxxxxxxxxxxxxxxxxxxxx" : Str) := by decide +kernel
def sp__law_value (K : PySem.W.Frag) : Sp := fun vs H Q _ => ∃ (a : Addr) (n : Nat), vs = [.ref a] ∧ WellAt H a n ∧ n < 900000 ∧ ∀ (z : Str) (H' : Hp) (n' : Nat), z ∈ vals8 → Keep a H H' → WellAt H' a n' → n' ≤ n + 1 → Q (.str z) H'
theorem ok__law_value {P : Program} {w : World} {K : PySem.W.Frag} {mg : Str → Option Value} {base : Heap} {fd : FuncData} (T : Txt K mg w) (F : FnP K "_law_value" s__law_value [] fd) : FnOk P w K mg base CX0 3 (He.ga K "_law_value") fd ps__law_value (sp__law_value K) := by
  obtain ⟨fd__law_pick, F__law_pick⟩ := T.d__law_pick
  have G__law_pick := ok__law_pick (P := P) (w := w) (base := base) T F__law_pick
  have k__law_pick := F__law_pick.kp
  have b__law_pick := bi__law_pick F__law_pick
  refine F.ok sc__law_value (fun vs H Q E h => ?len) (fun cdv A outer s H vs Q E hr h => ?body)
  case len => obtain ⟨a, n, rfl, hw, hn, k⟩ := h; rfl
  case body =>
  obtain ⟨a, n, rfl, hw, hn, k⟩ := h
  have hu := hu_of hr
  refine ⟨_, PSs.nox (pss_one (ps_ret (pe_call G__law_pick (hr.mono (by first | decide | omega)) rfl T.g__law_pick k__law_pick b__law_pick .nil pass0 (pa_cons (pv 0) (pa_cons (pe_lst (pa_cons pe_str (pa_cons pe_str (pa_cons pe_str (pa_cons pe_str (pa_cons pe_str (pa_cons pe_str (pa_cons pe_str (pa_cons (pe_op op_rep_str pe_str pe_int) pa_nil))))))))) pa_nil))))), ?_⟩
  refine ⟨_, rfl, _, _, rfl, rfl, (by decide), (by decide), (by decide), smallN (by show 8 ≤ 1000; decide), fun p hp => ?_⟩
  have w1 := well_new (u := .lst [.str "", .str "web", .str "db", .str "web", .str "a-1", .str "0", .str "-", .str (strRep "x" 24)])  hw hp
  refine ⟨a, p, n, _, rfl, w1, by omega, upd_same, well_ne3 hw hp, (by show 0 < 8; decide), (by show 8 ≤ 1000; decide), fun y u n' hy hn' hu' => ?_⟩
  obtain ⟨z, rfl, hz⟩ : ∃ z, y = .str z ∧ z ∈ vals8 := by
    rw [x24] at hy
    obtain ⟨z, hz, rfl⟩ := List.mem_map.mp (show y ∈ (vals8.take 8).map V.str from hy)
    exact ⟨z, rfl, List.mem_of_mem_take hz⟩
  exact k z _ n' hz ((Keep.new hp).trans Keep.at_) (well_upd hu') hn'
/-- some of the names -/
def Names (ns : List Str) : Prop := ns.length ≤ 11 ∧ 0 < ns.length ∧ ns.Nodup ∧ ∀ n ∈ ns, n ∈ names4
def sp__law_requirement (K : PySem.W.Frag) : Sp := fun vs H Q _ => ∃ (a b : Addr) (n : Nat) (ns : List Str), vs = [.ref a, .ref b] ∧ WellAt H a n ∧ n < 800000 ∧ H b = some (.lst (ns.map V.str)) ∧ b ≠ a ∧ Names ns ∧
  ∀ (p : Addr) (r : Row) (H' : Hp) (n' : Nat), r ∈ allRows ∧ r.nm ∈ ns → RowAt H' p r → Keep a H H' → WellAt H' a n' → n' ≤ n + 3 → Q (.ref p) H'
theorem ok__law_requirement {P : Program} {w : World} {K : PySem.W.Frag} {mg : Str → Option Value} {base : Heap} {fd : FuncData} (T : Txt K mg w) (F : FnP K "_law_requirement" s__law_requirement [] fd) : FnOk P w K mg base CX0 4 (He.ga K "_law_requirement") fd ps__law_requirement (sp__law_requirement K) := by
  obtain ⟨fd__law_pick, F__law_pick⟩ := T.d__law_pick
  have G__law_pick := ok__law_pick (P := P) (w := w) (base := base) T F__law_pick
  have k__law_pick := F__law_pick.kp
  have b__law_pick := bi__law_pick F__law_pick
  obtain ⟨fd__law_value, F__law_value⟩ := T.d__law_value
  have G__law_value := ok__law_value (P := P) (w := w) (base := base) T F__law_value
  have k__law_value := F__law_value.kp
  have b__law_value := bi__law_value F__law_value
  refine F.ok sc__law_requirement (fun vs H Q E h => ?len) (fun cdv A outer s H vs Q E hr h => ?body)
  case len => obtain ⟨a, b, n, ns, rfl, hw, hn, hb, nb, hN, k⟩ := h; rfl
  case body =>
  obtain ⟨a, b, n, ns, rfl, hw, hn, hb, nb, hN, k⟩ := h
  have hu := hu_of hr
  refine ⟨_, PSs.nox (pss_cons (ps_par (i := 2) (j := 3) (by rfl) sc__law_requirement.nd rfl rfl (by decide) rfl rfl (pa_cons (pe_call G__law_pick (hr.mono (by first | decide | omega)) rfl T.g__law_pick k__law_pick b__law_pick .nil pass0 (pa_cons (pv 0) (pa_cons (pv 1) pa_nil))) (pa_cons (pe_call G__law_pick (hr.mono (by first | decide | omega)) rfl T.g__law_pick k__law_pick b__law_pick .nil pass0 (pa_cons (pv 0) (pa_cons (pe_lst (pa_cons pe_str (pa_cons pe_str (pa_cons pe_str (pa_cons pe_str (pa_cons pe_str pa_nil)))))) pa_nil))) pa_nil)) (by rfl))
    (pss_one (ps_ret (pe_tup (pa_cons (pv 2) (pa_cons (pv 3) (pa_cons (pe_ifExp (pt_cmpR op_in_seq (pv 3) (pe_tup (pa_cons pe_str (pa_cons pe_str pa_nil))) (by rfl)) (pe_call G__law_value (hr.mono (by first | decide | omega)) rfl T.g__law_value k__law_value b__law_value .nil pass0 (pa_cons (pv 0) pa_nil)) pe_str) pa_nil))))))), ?_⟩
  refine ⟨_, rfl, _, rfl, a, b, n, _, rfl, hw, by omega, hb, nb, (by rw [List.length_map]; exact hN.2.1), (by rw [List.length_map]; have := hN.1; omega), fun y u n1 hy hn1 hu1 => ?_⟩
  obtain ⟨nm, hnm, rfl⟩ := List.mem_map.mp hy
  have w1 := well_upd (H := H) (a := a) hu1
  have K1 : Keep a H (upd H a u) := Keep.at_
  generalize upd H a u = H1 at w1 K1 ⊢
  refine ⟨_, rfl, smallN (by show 5 ≤ 1000; decide), fun p hp => ?_⟩
  have w2 := well_new (u := .lst [.str "is", .str "not", .str "there", .str "missing", .str "not"]) w1 hp
  refine ⟨a, p, n1, _, rfl, w2, by omega, upd_same, well_ne3 w1 hp, (by show 0 < 5; decide), (by show 5 ≤ 1000; decide), fun y u2 n2 hy2 hn2 hu2 => ?_⟩
  obtain ⟨vb, rfl⟩ : ∃ vb, y = .str (vT vb) := by
    simp only [List.mem_cons, List.mem_nil_iff, or_false] at hy2
    rcases hy2 with rfl | rfl | rfl | rfl | rfl
    · exact ⟨.is, rfl⟩
    · exact ⟨.not, rfl⟩
    · exact ⟨.there, rfl⟩
    · exact ⟨.missing, rfl⟩
    · exact ⟨.not, rfl⟩
  have w3 := well_upd (H := upd H1 p (.lst [.str "is", .str "not", .str "there", .str "missing", .str "not"])) (a := a) hu2
  have K3 := K1.trans ((Keep.new (u := .lst [.str "is", .str "not", .str "there", .str "missing", .str "not"]) hp).trans (Keep.at_ (u := u2)))
  generalize upd (upd H1 p (.lst [.str "is", .str "not", .str "there", .str "missing", .str "not"])) a u2 = H3 at w3 K3 ⊢
  refine ⟨_, _, rfl, ?_⟩
  refine ⟨_, rfl, _, rfl, _, rfl, smallN (by show 2 ≤ 1000; decide), fun p4 hp4 => ?_⟩
  have w4 := well_new (u := .tup [.str "is", .str "not"]) w3 hp4
  have K4 := K3.trans (Keep.new (u := .tup [.str "is", .str "not"]) hp4)
  have g4 : (upd H3 p4 (.tup [.str "is", .str "not"])) p4 = _ := upd_same
  generalize upd H3 p4 (.tup [.str "is", .str "not"]) = H4 at w4 K4 g4 ⊢
  refine ⟨p4, _, rfl, .inr (SqT.of g4), rfl, rfl, _, rfl, ?_⟩
  have hm := hN.2.2.2 nm hnm
  have last : ∀ (r : Row) (H5 : Hp) (n5 : Nat), r ∈ allRows ∧ r.nm ∈ ns → Keep a H H5 → WellAt H5 a n5 → n5 ≤ n + 3 → ∀ p5, H5 p5 = none → Q (.ref p5) (upd H5 p5 (.tup (rowV r))) := fun r H5 n5 hr5 K5 w5 hn5 p5 hp5 =>
    k p5 r _ n5 hr5 upd_same (K5.trans (Keep.new hp5)) (well_new w5 hp5) hn5
  cases vb with
  | is => exact iteT ⟨_, rfl, a, n2, rfl, w4, by omega, fun z H5 n5 hz K5 w5 hn5 => ⟨smallN (by show 3 ≤ 1000; decide), last ⟨nm, .is, z⟩ H5 n5 ⟨(row_mem hm hz).1, hnm⟩ (K4.trans K5) w5 (by omega)⟩⟩
  | not => exact iteT ⟨_, rfl, a, n2, rfl, w4, by omega, fun z H5 n5 hz K5 w5 hn5 => ⟨smallN (by show 3 ≤ 1000; decide), last ⟨nm, .not, z⟩ H5 n5 ⟨(row_mem hm hz).2.1, hnm⟩ (K4.trans K5) w5 (by omega)⟩⟩
  | there => exact iteF ⟨smallN (by show 3 ≤ 1000; decide), last ⟨nm, .there, ""⟩ H4 n2 ⟨(row_mem hm (v := "") (by simp [vals8])).2.2.1, hnm⟩ K4 w4 (by omega)⟩
  | missing => exact iteF ⟨smallN (by show 3 ≤ 1000; decide), last ⟨nm, .missing, ""⟩ H4 n2 ⟨(row_mem hm (v := "") (by simp [vals8])).2.2.2, hnm⟩ K4 w4 (by omega)⟩

def marks : List (Key × V) := [(Sum.inr "is", .str "="), (Sum.inr "not", .str "!="), (Sum.inr "there", .str ""), (Sum.inr "missing", .str "")]
theorem marks_at (vb : Verb) : valV (mergeK [] marks) (Sum.inr (vT vb)) = some (.str (markT vb)) := by cases vb <;> decide +kernel
theorem pre_at (vb : Verb) : strRep "!" (if decide (V.str (vT vb) = V.str "missing") = true then 1 else 0) = preT vb := by cases vb <;> decide +kernel
theorem pre_len (vb : Verb) : (preT vb).length ≤ 1 := by cases vb <;> decide +kernel
theorem mark_len (vb : Verb) : (markT vb).length ≤ 2 := by cases vb <;> decide +kernel
theorem len_app (x y : Str) : (x ++ y).length = x.length + y.length := strLen_append x y
def sp__law_text (K : PySem.W.Frag) : Sp := fun vs H Q _ => ∃ (L : Addr) (rows : List Row), vs = [.ref L] ∧ RowsAt H L rows ∧ Rows8 rows ∧ ∀ H', Same H H' → Q (.str (selT rows)) H'
theorem ok__law_text {P : Program} {w : World} {K : PySem.W.Frag} {mg : Str → Option Value} {base : Heap} {fd : FuncData} (T : Txt K mg w) (F : FnP K "_law_text" s__law_text [] fd) : FnOk P w K mg base CX0 1 (He.ga K "_law_text") fd ps__law_text (sp__law_text K) := by
  refine F.ok sc__law_text (fun vs H Q E h => ?len) (fun cdv A outer s H vs Q E hr h => ?body)
  case len => obtain ⟨L, rows, rfl, ⟨ps, gL, hp⟩, h8, k⟩ := h; rfl
  case body =>
  obtain ⟨L, rows, rfl, ⟨ps, gL, hp⟩, h8, k⟩ := h
  have hu := hu_of hr
  refine ⟨_, PSs.nox (pss_cons (ps_set (i := 1) sc__law_text.nd rfl (Or.inl rfl) (pe_lst pa_nil))
    (pss_cons (ps_for PassesOwn.never rfl (pi_list (pv 0)) (pg_tup rfl (pgs_cons (pg_name (i := 2) sc__law_text.nd rfl (Or.inl rfl)) (pgs_cons (pg_name (i := 3) sc__law_text.nd rfl (Or.inl rfl)) (pgs_cons (pg_name (i := 4) sc__law_text.nd rfl (Or.inl rfl)) pgs_nil))))
      (pss_cons (ps_set (i := 5) sc__law_text.nd rfl (Or.inl rfl) (pe_dget hu (pe_disp (pps_cons pe_str pe_str (pps_cons pe_str pe_str (pps_cons pe_str pe_str (pps_cons pe_str pe_str pps_nil)))) (by rfl) (by rfl) (fun z => by cases z) (by decide)) (pv 3) (fun _ _ => rfl)))
        (pss_one (ps_expr (pe_bm PySem.F.plainAttrs_list PySem.F.slot_list_append PySem.F.type_list_append mt_append (pv 1) (pa_cons (pe_op op_add_str (pe_op op_add_str (pe_op op_add_str (pe_op op_rep_str pe_str (pe_callTy call_int1 (by rfl) T.n_int (by decide +kernel) (pa_cons (pe_cmpR op_eq (pv 3) pe_str (nomark _)) pa_nil))) (pv 2)) (pv 5)) (pv 4)) pa_nil))))))
    (pss_one (ps_ret (pe_join pe_str (pv 1)))))), ?_⟩
  have lp := paired_len hp
  refine ⟨smallN (by show 0 ≤ 1000; decide), fun F hF => ?_⟩
  have S0 := Same.new (u := .lst []) hF
  refine ⟨_, rfl, L, rfl, ⟨_, SqL.of (S0 _ _ gL)⟩, for_list (K := K) (a := L) (xs := ps.map V.ref) (fun i σ H' => ∃ v2 v3 v4 v5 : Option V, σ = [some (.ref L), some (.ref F), v2, v3, v4, v5] ∧ Same H H' ∧ H' F = some (.lst ((rows.take i).map fun r => V.str (rowT r))))
    ⟨_, _, _, _, rfl, S0, upd_same⟩ (fun i σ H' _ ⟨_, _, _, _, _, S, _⟩ => SqL.of (S _ _ gL)) ?_ ?_⟩
  · rintro i x σ H1 hx ⟨v2, v3, v4, v5, rfl, S1, gF⟩
    rw [List.getElem?_map] at hx
    obtain ⟨p, ep, rfl⟩ := Option.map_eq_some_iff.mp hx
    obtain ⟨r, er, hr1⟩ := paired_at hp ep
    have f := row_f (h8.2 r (mem_at er))
    refine ⟨p, _, rfl, SqT.of (S1 _ _ hr1), rfl, _, _, rfl, _, _, rfl, _, _, rfl, rfl, ?_⟩
    intro p2 q2
    refine ⟨upd_same, marks, rfl, by decide, ?_⟩
    rw [upd_upd]
    have S2 := Same.new (u := .dK (mergeK [] marks)) q2
    have g2 : (upd H1 p2 (.dK (mergeK [] marks))) p2 = _ := upd_same
    generalize upd H1 p2 (.dK (mergeK [] marks)) = H2 at S2 g2 ⊢
    have hg : DGet H2 p2 (.str (vT r.vb)) (some (.str (markT r.vb))) := by
      have := DGet.k (k := Sum.inr (vT r.vb)) g2
      rw [marks_at] at this
      exact this
    refine ⟨_, rfl, p2, _, rfl, hg, ?_⟩
    have gF2 := S2 _ _ gF
    have l1 := pre_len r.vb
    have l2 := mark_len r.vb
    have l3 := f.ln
    have l4 := f.lv
    refine ⟨_, rfl, .inl ⟨rfl, _, SqL.of gF2⟩, ?_⟩
    refine ⟨_, rfl, rfl, .inr ⟨_, rfl, _, _, rfl, rfl, (by decide), (by split <;> decide), (by split <;> decide), ?_⟩⟩
    rw [pre_at]
    refine ⟨_, rfl, _, _, rfl, rfl, smallN (by omega), _, rfl, _, _, rfl, rfl, smallN (by rw [len_app]; omega), _, rfl, _, _, rfl, rfl, smallN (by rw [len_app, len_app]; omega), ?_⟩
    refine ⟨F, _, _, rfl, rfl, gF2, small1000 (by rw [List.length_map, List.length_take]; have := h8.1; omega), ?_⟩
    refine ⟨_, _, _, _, rfl, fun b o hb => ?_, ?_⟩
    · rw [upd_ne (ne_of_none hb hF)]; exact S2 _ _ (S1 b o hb)
    · rw [upd_same, get_take er, List.map_append]; rfl
  · rintro σ H1 ⟨v2, v3, v4, v5, rfl, S1, gF⟩
    rw [List.length_map, lp, List.take_length] at gF
    have gF2 : H1 F = some (.lst ((rows.map rowT).map V.str)) := by rw [gF, List.map_map]; rfl
    refine ⟨⟨_, rfl⟩, _, rfl, _, F, rows.map rowT, rfl, rfl, .inl (SqL.of gF2), ?_, k H1 S1⟩
    have q : ∀ l : List Row, (∀ r ∈ l, r ∈ allRows) → ((l.map rowT).map (·.length)).sum ≤ l.length * 50 := fun l => by
      induction l with
      | nil => intro _; exact Nat.le_refl 0
      | cons r l ih =>
        intro h
        have h1 := ih fun z hz => h z (List.mem_cons_of_mem _ hz)
        have h2 := (row_f (h r (List.mem_cons_self ..))).lt
        rw [List.map_cons, List.map_cons, List.sum_cons, List.length_cons]
        omega
    have q1 := q rows h8.2
    have q2 : (",":Str).length = 1 := by decide +kernel
    rw [List.length_map, q2]
    have := h8.1
    omega
def sp__law_fulfils (K : PySem.W.Frag) : Sp := fun vs H Q _ => ∃ (L d : Addr) (rows : List Row) (kvs : List (Str × Str)), vs = [.ref L, .ref d] ∧ RowsAt H L rows ∧ H d = some (.dK (labD kvs)) ∧ Q (.bl (fulAll rows kvs)) H
theorem ok__law_fulfils {P : Program} {w : World} {K : PySem.W.Frag} {mg : Str → Option Value} {base : Heap} {fd : FuncData} (T : Txt K mg w) (F : FnP K "_law_fulfils" s__law_fulfils [] fd) : FnOk P w K mg base CX0 1 (He.ga K "_law_fulfils") fd ps__law_fulfils (sp__law_fulfils K) := by
  refine F.ok sc__law_fulfils (fun vs H Q E h => ?len) (fun cdv A outer s H vs Q E hr h => ?body)
  case len => obtain ⟨L, d, rows, kvs, rfl, ⟨ps, gL, hp⟩, hd, k⟩ := h; rfl
  case body =>
  obtain ⟨L, d, rows, kvs, rfl, ⟨ps, gL, hp⟩, hd, k⟩ := h
  have hu := hu_of hr
  refine ⟨_, PSs.nox (pss_cons (ps_for PassesOwn.never rfl (pi_list (pv 0)) (pg_tup rfl (pgs_cons (pg_name (i := 2) sc__law_fulfils.nd rfl (Or.inl rfl)) (pgs_cons (pg_name (i := 3) sc__law_fulfils.nd rfl (Or.inl rfl)) (pgs_cons (pg_name (i := 4) sc__law_fulfils.nd rfl (Or.inl rfl)) pgs_nil))))
      (pss_cons (ps_if (PW.pt (pw_or (PW.pt (pw_and (pt_cmpR op_eq (pv 3) pe_str (nomark _)) (pw_and1 (pt_cmpR op_ne (pe_dget1 hu (pv 1) (pv 2) ⟨rfl, rfl, rfl, rfl⟩) (pv 4) (nomark _))))) (pw_or1 (PW.pt (pw_and (pt_cmpR op_eq (pv 3) pe_str (nomark _)) (pw_and1 (pt_cmpR op_eq (pe_dget1 hu (pv 1) (pv 2) ⟨rfl, rfl, rfl, rfl⟩) (pv 4) (nomark _)))))))) (pss_one (ps_ret pe_bl)) pss_nil)
        (pss_one (ps_if (PW.pt (pw_or (PW.pt (pw_and (pt_cmpR op_eq (pv 3) pe_str (nomark _)) (pw_and1 (pt_cmp (pc_dnotin hu (pv 2) (pv 1)))))) (pw_or1 (PW.pt (pw_and (pt_cmpR op_eq (pv 3) pe_str (nomark _)) (pw_and1 (pt_cmp (pc_din hu (pv 2) (pv 1))))))))) (pss_one (ps_ret pe_bl)) pss_nil))))
    (pss_one (ps_ret pe_bl))), ?_⟩
  have lp := paired_len hp
  refine ⟨_, rfl, L, rfl, ⟨_, SqL.of gL⟩, for_list (K := K) (a := L) (xs := ps.map V.ref) (fun i σ H' => ∃ v2 v3 v4 : Option V, σ = [some (.ref L), some (.ref d), v2, v3, v4] ∧ H' = H ∧ fulAll (rows.take i) kvs = true)
    ⟨_, _, _, rfl, rfl, rfl⟩ (fun i σ H' _ ⟨_, _, _, _, e, _⟩ => by rw [e]; exact SqL.of gL) ?_ ?_⟩
  · rintro i x σ H' hx ⟨v2, v3, v4, rfl, rfl, hall⟩
    rw [List.getElem?_map] at hx
    obtain ⟨p, ep, rfl⟩ := Option.map_eq_some_iff.mp hx
    obtain ⟨r, er, hr1⟩ := paired_at hp ep
    have hg : DGet H' d (.str r.nm) (look kvs r.nm) := DGet.k (k := Sum.inr r.nm) hd
    have good : fulB r (look kvs r.nm) = true → fulAll (rows.take (i + 1)) kvs = true := fun e => by
      unfold fulAll at hall ⊢
      rw [get_take er, List.all_append, hall, List.all_cons, e]; rfl
    have bad : fulB r (look kvs r.nm) = false → Q (.bl false) H' := fun e => by
      have e2 : fulAll rows kvs = false := by
        unfold fulAll
        rw [List.all_eq_false]
        exact ⟨r, mem_at er, by rw [e]; simp⟩
      rw [e2] at k
      exact k
    have hs := @look_str kvs r.nm
    have isd : IsD H' d := .inl ⟨_, .inl hd⟩
    generalize look kvs r.nm = o at hg hs good bad
    refine ⟨p, _, rfl, SqT.of hr1, rfl, _, _, rfl, _, _, rfl, _, _, rfl, rfl, ?_⟩
    have sc : scal (o.getD .non) (.str r.vl) = true := by
      cases o with
      | none => rfl
      | some v => obtain ⟨x, rfl⟩ := hs rfl; rfl
    have deq : decide (o.getD V.non = V.str r.vl) = decide (o = some (V.str r.vl)) := by
      cases o with
      | none => rw [decide_eq_false (show ¬ (none : Option V) = some (V.str r.vl) from fun z => by cases z), decide_eq_false (show ¬ (none : Option V).getD V.non = V.str r.vl from fun z => by cases z)]
      | some v => obtain ⟨x, rfl⟩ := hs rfl; rw [dec_some]; rfl
    refine ⟨_, rfl, rfl, _, rfl, ?_⟩
    unfold fulB at good bad
    cases evb : r.vb with
    | is =>
      rw [evb] at good bad
      dsimp only at good bad
      refine iteT ⟨_, rfl, d, rfl, isd, _, rfl, o, hg, _, rfl, sc, _, rfl, ?_⟩
      rw [deq]
      cases e : decide (o = some (V.str r.vl)) with
      | false => exact iteT (bad e)
      | true =>
        refine iteF ⟨_, rfl, rfl, _, rfl, iteF (iteF ?_)⟩
        refine ⟨_, rfl, rfl, _, rfl, iteF ⟨_, rfl, rfl, _, rfl, iteF (iteF ?_)⟩⟩
        exact ⟨_, _, _, rfl, rfl, good e⟩
    | not =>
      rw [evb] at good bad
      dsimp only at good bad
      refine iteF ⟨_, rfl, rfl, _, rfl, ?_⟩
      refine iteT ⟨_, rfl, d, rfl, isd, _, rfl, o, hg, _, rfl, sc, _, rfl, ?_⟩
      rw [deq]
      cases e : decide (o = some (V.str r.vl)) with
      | true => exact iteT (bad (by rw [e]; rfl))
      | false =>
        refine iteF ?_
        refine ⟨_, rfl, rfl, _, rfl, iteF ⟨_, rfl, rfl, _, rfl, iteF (iteF ?_)⟩⟩
        exact ⟨_, _, _, rfl, rfl, good (by rw [e]; rfl)⟩
    | there =>
      rw [evb] at good bad
      dsimp only at good bad
      refine iteF ⟨_, rfl, rfl, _, rfl, iteF (iteF ?_)⟩
      refine ⟨_, rfl, rfl, _, rfl, iteT ⟨_, rfl, _, rfl, d, o, rfl, hg, _, rfl, ?_⟩⟩
      cases e : o.isSome with
      | false => exact iteT (bad e)
      | true => exact iteF ⟨_, rfl, rfl, _, rfl, iteF (iteF ⟨_, _, _, rfl, rfl, good e⟩)⟩
    | missing =>
      rw [evb] at good bad
      dsimp only at good bad
      refine iteF ⟨_, rfl, rfl, _, rfl, iteF (iteF ?_)⟩
      refine ⟨_, rfl, rfl, _, rfl, iteF ⟨_, rfl, rfl, _, rfl, iteT ⟨_, rfl, _, rfl, d, o, rfl, hg, _, rfl, ?_⟩⟩⟩
      cases e : o.isSome with
      | true => exact iteT (bad (by rw [e]; rfl))
      | false => exact iteF ⟨_, _, _, rfl, rfl, good (by rw [e]; rfl)⟩
  · rintro σ H' ⟨v2, v3, v4, rfl, rfl, hall⟩
    rw [List.length_map, lp, List.take_length] at hall
    rw [hall] at k
    exact k

/-! ### all labels of some names with some values -/
abbrev Lb := List (Str × Str)
def growL (xs : List Str) (acc : List Lb) (n : Str) : List Lb := acc ++ acc.flatMap fun l => xs.map fun x => l ++ [(n, x)]
def allLab (xs : List Str) (ns : List Str) : List Lb := ns.foldl (growL xs) [[]]
theorem allLab_snoc (xs ns : List Str) (n : Str) : allLab xs (ns ++ [n]) = growL xs (allLab xs ns) n := by unfold allLab; rw [List.foldl_append]; rfl
theorem flat_len {α β : Type} (f : α → List β) (k : Nat) : ∀ l : List α, (∀ a ∈ l, (f a).length = k) → (l.flatMap f).length = l.length * k
  | [], _ => by simp
  | a :: l, h => by
    rw [List.flatMap_cons, List.length_append, h a List.mem_cons_self, flat_len f k l fun b hb => h b (List.mem_cons_of_mem _ hb), List.length_cons, Nat.succ_mul, Nat.add_comm]
theorem growL_len (xs : List Str) (acc : List Lb) (n : Str) : (growL xs acc n).length = acc.length + acc.length * xs.length := by
  unfold growL
  rw [List.length_append, flat_len _ xs.length]
  exact fun _ _ => List.length_map _
theorem allLab_len (xs : List Str) (m : Nat) (hm : xs.length ≤ m) : ∀ ns : List Str, (allLab xs ns).length ≤ (m + 1) ^ ns.length := fun ns => by
  have : ∀ (ns : List Str) (acc : List Lb), (ns.foldl (growL xs) acc).length ≤ acc.length * (m + 1) ^ ns.length := fun ns => by
    induction ns with
    | nil => intro acc; simp
    | cons n ns more =>
      intro acc
      rw [List.foldl_cons, List.length_cons, Nat.pow_succ']
      refine Nat.le_trans (more _) ?_
      rw [growL_len, ← Nat.mul_assoc]
      refine Nat.mul_le_mul_right _ ?_
      rw [Nat.mul_succ, Nat.add_comm]
      exact Nat.add_le_add_right (Nat.mul_le_mul_left _ hm) _
  have h := this ns [[]]
  simpa [allLab] using h
theorem allLab_keys (xs : List Str) : ∀ (ns done : List Str) (acc : List Lb), (done ++ ns).Nodup → (∀ t ∈ acc, (t.map (·.1)).Nodup ∧ ∀ n ∈ t.map (·.1), n ∈ done) → ∀ t ∈ ns.foldl (growL xs) acc, (t.map (·.1)).Nodup ∧ ∀ n ∈ t.map (·.1), n ∈ done ++ ns
  | [], done, acc, _, h, t, ht => by rw [List.append_nil]; exact h t ht
  | n :: ns, done, acc, nd, h, t, ht => by
    have e : done ++ n :: ns = (done ++ [n]) ++ ns := by rw [List.append_assoc]; rfl
    rw [e] at nd ⊢
    refine allLab_keys xs ns (done ++ [n]) (growL xs acc n) nd (fun t ht => ?_) t ht
    have nn : n ∉ done := by
      have := (List.nodup_append.mp nd).1
      intro z
      exact (List.nodup_append.mp this).2.2 n z n (List.mem_singleton.mpr rfl) rfl
    unfold growL at ht
    rcases List.mem_append.mp ht with ht | ht
    · exact ⟨(h t ht).1, fun m hm => List.mem_append_left _ ((h t ht).2 m hm)⟩
    · obtain ⟨l, hl, ht⟩ := List.mem_flatMap.mp ht
      obtain ⟨x, _, rfl⟩ := List.mem_map.mp ht
      rw [List.map_append]
      refine ⟨List.nodup_append.mpr ⟨(h l hl).1, by simp, fun a ha b hb => ?_⟩, fun m hm => ?_⟩
      · have : b = n := List.mem_singleton.mp hb
        subst this
        exact fun z => nn (z ▸ (h l hl).2 a ha)
      · rcases List.mem_append.mp hm with hm | hm
        · exact List.mem_append_left _ ((h l hl).2 m hm)
        · exact List.mem_append_right _ hm
theorem lab_keys_at {xs ns : List Str} {i : Nat} {n : Str} (nd : ns.Nodup) (e : ns[i]? = some n) : ∀ t ∈ allLab xs (ns.take i), (t.map (·.1)).Nodup ∧ n ∉ t.map (·.1) := by
  intro t ht
  have ndt : (ns.take i).Nodup := List.Sublist.nodup (List.take_sublist _ _) nd
  obtain ⟨a, b⟩ := allLab_keys xs (ns.take i) [] [[]] ndt (fun t ht => by rw [List.mem_singleton.mp ht]; exact ⟨.nil, fun n hn => by cases hn⟩) t ht
  refine ⟨a, fun z => ?_⟩
  have m := b n z
  rw [List.nil_append] at m
  obtain ⟨j, hj⟩ := List.mem_iff_getElem?.mp m
  rw [List.getElem?_take] at hj
  split at hj
  · rename_i lt
    exact absurd ((List.getElem?_inj (lt_at hj) nd).mp (hj.trans e.symm)) (Nat.ne_of_lt lt)
  · cases hj
def LabsAt (H : Hp) (F : Addr) (ts : List Lb) : Prop := ∃ ds : List Addr, H F = some (.lst (ds.map V.ref)) ∧ Paired (fun d t => H d = some (.dK (labD t))) ds ts
theorem labs_same {H H' : Hp} {F : Addr} {ts : List Lb} (s : Same H H') (h : LabsAt H F ts) : LabsAt H' F ts := have ⟨ds, h1, h2⟩ := h; ⟨ds, s _ _ h1, Paired.mono (fun _ _ q => s _ _ q) h2⟩
theorem merge_one {t : Lb} {n x : Str} (nd : (t.map (·.1)).Nodup) (new : n ∉ t.map (·.1)) : mergeK [] (labD t ++ [(Sum.inr n, .str x)]) = labD (t ++ [(n, x)]) := by
  have e : labD t ++ [(Sum.inr n, .str x)] = labD (t ++ [(n, x)]) := by unfold labD; rw [List.map_append]; rfl
  rw [e, merge_app _ _ (by
    rw [List.nil_append, lab_keys]
    refine nd_inr ?_
    rw [List.map_append]
    exact List.nodup_append.mpr ⟨nd, by simp, fun a ha b hb => fun z => new (by have : b = n := List.mem_singleton.mp hb; rw [← this, ← z]; exact ha)⟩)]
  rfl
def sp__law_all_labels (K : PySem.W.Frag) : Sp := fun vs H Q _ => ∃ (a b : Addr) (ns xs : List Str), vs = [.ref a, .ref b] ∧ H a = some (.lst (ns.map V.str)) ∧ H b = some (.lst (xs.map V.str)) ∧ ns.Nodup ∧ ns.length ≤ 3 ∧ xs.length ≤ 20 ∧
  ∀ p H', Same H H' → LabsAt H' p (allLab xs ns) → Q (.ref p) H'
theorem small6 {n : Nat} (h : n ≤ 100000) : n < sizeLine := by rw [sizeLine_eq]; omega
theorem ok__law_all_labels {P : Program} {w : World} {K : PySem.W.Frag} {mg : Str → Option Value} {base : Heap} {fd : FuncData} (T : Txt K mg w) (F : FnP K "_law_all_labels" s__law_all_labels [] fd) : FnOk P w K mg base CX0 1 (He.ga K "_law_all_labels") fd ps__law_all_labels (sp__law_all_labels K) := by
  refine F.ok sc__law_all_labels (fun vs H Q E h => ?len) (fun cdv A outer s H vs Q E hr h => ?body)
  case len => obtain ⟨a, b, ns, xs, rfl, ga, gb, nd, ln, lx, k⟩ := h; rfl
  case body =>
  obtain ⟨a, b, ns, xs, rfl, ga, gb, nd, ln, lx, k⟩ := h
  have hu := hu_of hr
  refine ⟨_, PSs.nox (pss_cons (ps_set (i := 2) sc__law_all_labels.nd rfl (Or.inl rfl) (pe_lst (pa_cons pe_dnewK pa_nil)))
    (pss_cons (ps_for PassesOwn.never rfl (pi_list (pv 0)) (pg_name (i := 3) sc__law_all_labels.nd rfl (Or.inl rfl))
      (pss_cons (ps_set (i := 4) sc__law_all_labels.nd rfl (Or.inl rfl) (pe_lst pa_nil))
        (pss_cons (ps_for PassesOwn.never rfl (pi_list (pv 2)) (pg_name (i := 5) sc__law_all_labels.nd rfl (Or.inl rfl))
          (pss_one (ps_for PassesOwn.never rfl (pi_list (pv 1)) (pg_name (i := 6) sc__law_all_labels.nd rfl (Or.inl rfl))
              (pss_one (ps_expr (pe_bm PySem.F.plainAttrs_list PySem.F.slot_list_append PySem.F.type_list_append mt_append (pv 4) (pa_cons (pe_callTy (call_dictP rfl) (by rfl) T.n_dict (by decide +kernel) (pa_cons (pe_op op_cat (LiI.pe_listItems rfl (pv 5) rfl T.n_list (by decide +kernel)) (pe_lst (pa_cons (pe_tup (pa_cons (pv 3) (pa_cons (pv 6) pa_nil))) pa_nil))) pa_nil)) pa_nil)))))))
        (pss_one (ps_set (i := 2) sc__law_all_labels.nd rfl (Or.inl rfl) (pe_op op_cat (pv 2) (pv 4)))))))
    (pss_one (ps_ret (pv 2))))), ?_⟩
  have big : ∀ i, (allLab xs (ns.take i)).length ≤ 9261 := fun i => by
    refine Nat.le_trans (allLab_len xs 20 lx (ns.take i)) ?_
    have : (ns.take i).length ≤ 3 := by rw [List.length_take]; omega
    exact Nat.le_trans (Nat.pow_le_pow_right (by decide) this) (by decide)
  intro d0 q0
  refine ⟨smallN (by show 1 ≤ 1000; decide), fun F0 qF => ?_⟩
  have S0 := (Same.new (u := .dK []) q0).trans (Same.new (u := .lst [.ref d0]) qF)
  have L0 : LabsAt (upd (upd H d0 (.dK [])) F0 (.lst [.ref d0])) F0 [[]] := ⟨[d0], upd_same, .cons (Same.new qF _ _ upd_same) .nil⟩
  generalize upd (upd H d0 (.dK [])) F0 (.lst [.ref d0]) = H0 at S0 L0 ⊢
  refine ⟨_, rfl, a, rfl, ⟨_, SqL.of (S0 _ _ ga)⟩, for_list (K := K) (a := a) (xs := ns.map V.str) (fun i σ H' => ∃ (F : Addr) (v3 v4 v5 v6 : Option V), σ = [some (.ref a), some (.ref b), some (.ref F), v3, v4, v5, v6] ∧ Same H H' ∧ LabsAt H' F (allLab xs (ns.take i)))
    ⟨F0, _, _, _, _, rfl, S0, L0⟩ (fun i σ H' _ ⟨_, _, _, _, _, _, S, _⟩ => SqL.of (S _ _ ga)) ?_ ?_⟩
  · rintro i x σ H1 hx ⟨F, v3, v4, v5, v6, rfl, S1, L1⟩
    rw [List.getElem?_map] at hx
    obtain ⟨n, en, rfl⟩ := Option.map_eq_some_iff.mp hx
    have keys := lab_keys_at (xs := xs) nd en
    have sub : ∀ t ∈ allLab xs (ns.take i), ∀ y ∈ t.map (·.1), y ∈ ns := fun t ht y hy => by
      have := (allLab_keys xs (ns.take i) [] [[]] (List.Sublist.nodup (List.take_sublist _ _) nd) (fun t ht => by rw [List.mem_singleton.mp ht]; exact ⟨.nil, fun n hn => by cases hn⟩) t ht).2 y hy
      exact List.mem_of_mem_take (by simpa using this)
    have lb := big i
    have lb2 := big (i + 1)
    rw [get_take en, allLab_snoc] at lb2 ⊢
    rw [growL_len] at lb2
    obtain ⟨ds, gF, hd⟩ := L1
    generalize allLab xs (ns.take i) = acc at keys sub lb lb2 hd ⊢
    have ld := paired_len hd
    refine ⟨smallN (by show 0 ≤ 1000; decide), fun M qM => ?_⟩
    have SM := Same.new (u := .lst []) qM
    refine ⟨_, rfl, F, rfl, ⟨_, SqL.of (SM _ _ gF)⟩, for_list (K := K) (a := F) (xs := ds.map V.ref) (fun j σ H' => ∃ (v5 v6 : Option V) (es : List Addr), σ = [some (.ref a), some (.ref b), some (.ref F), some (.str n), some (.ref M), v5, v6] ∧ Same H1 H' ∧
        H' M = some (.lst (es.map V.ref)) ∧ Paired (fun d t => H' d = some (.dK (labD t))) es ((acc.take j).flatMap fun l => xs.map fun x => l ++ [(n, x)]))
      ⟨_, _, [], rfl, SM, upd_same, by rw [List.take_zero]; exact .nil⟩ (fun j σ H' _ ⟨_, _, _, _, S, _⟩ => SqL.of (S _ _ gF)) ?_ ?_⟩
    · rintro j x σ H2 hx ⟨v5, v6, es, rfl, S2, gM, he⟩
      rw [List.getElem?_map] at hx
      obtain ⟨d, ed, rfl⟩ := Option.map_eq_some_iff.mp hx
      obtain ⟨t, et, gd⟩ := paired_at hd ed
      obtain ⟨k1, k2⟩ := keys t (mem_at et)
      have part : ((acc.take j).flatMap fun l => xs.map fun x => l ++ [(n, x)]).length ≤ acc.length * xs.length := by
        rw [flat_len _ xs.length _ fun _ _ => List.length_map _, List.length_take]
        exact Nat.mul_le_mul_right _ (by omega)
      have jl := lt_at et
      refine ⟨_, rfl, b, rfl, ⟨_, SqL.of (S2 _ _ (S1 _ _ gb))⟩, for_list (K := K) (a := b) (xs := xs.map V.str) (fun m σ H' => ∃ (v6 : Option V) (es : List Addr), σ = [some (.ref a), some (.ref b), some (.ref F), some (.str n), some (.ref M), some (.ref d), v6] ∧ Same H1 H' ∧
          H' M = some (.lst (es.map V.ref)) ∧ Paired (fun d t => H' d = some (.dK (labD t))) es (((acc.take j).flatMap fun l => xs.map fun x => l ++ [(n, x)]) ++ (xs.take m).map fun x => t ++ [(n, x)]))
        ⟨_, es, rfl, S2, gM, by rw [List.take_zero, List.map_nil, List.append_nil]; exact he⟩ (fun m σ H' _ ⟨_, _, _, S, _⟩ => SqL.of (S _ _ (S1 _ _ gb))) ?_ ?_⟩
      · rintro m x σ H3 hx ⟨v6, es, rfl, S3, gM, he⟩
        rw [List.getElem?_map] at hx
        obtain ⟨x, ex, rfl⟩ := Option.map_eq_some_iff.mp hx
        have gd3 := S3 _ _ gd
        have len := paired_len he
        rw [List.length_append, List.length_map, List.length_take] at len
        refine ⟨_, rfl, .inl ⟨rfl, _, SqL.of gM⟩, _, rfl, d, _, rfl, gd3, fun H4 p4 ts S4 _ _ _ g4 pr4 => ?_⟩
        have S4' : Same H3 H4 := S4
        have lt4 : ts.length = (labD t).length := paired_len pr4
        have lt : t.length ≤ 3 := by
          have h := within_len (l := n :: t.map (·.1)) (ks := ns) (List.nodup_cons.mpr ⟨k2, k1⟩) (fun y hy => by
            rcases List.mem_cons.mp hy with e | hy
            · rw [e]; exact mem_at en
            · exact sub t (mem_at et) y hy)
          rw [List.length_cons, List.length_map] at h
          omega
        refine ⟨_, rfl, _, rfl, smallN (by show 2 ≤ 1000; decide), fun pt qt => ⟨smallN (by show 1 ≤ 1000; decide), fun pl ql => ?_⟩⟩
        have St := Same.new (u := .tup [.str n, .str x]) qt
        have gt : (upd H4 pt (.tup [.str n, .str x])) pt = some (.tup [.str n, .str x]) := upd_same
        generalize upd H4 pt (.tup [.str n, .str x]) = H5 at St gt ql ⊢
        have Sl := Same.new (u := .lst [.ref pt]) ql
        have gl : (upd H5 pl (.lst [.ref pt])) pl = some (.lst [.ref pt]) := upd_same
        generalize upd H5 pl (.lst [.ref pt]) = H6 at Sl gl ⊢
        have S46 := St.trans Sl
        refine ⟨p4, pl, _, _, rfl, rfl, S46 _ _ g4, gl, smallN (by rw [List.length_map, lt4]; unfold labD; rw [List.length_map]; show _ + 1 ≤ 1000; omega), fun pc qc => ?_⟩
        have Sc := Same.new (u := .lst (ts.map V.ref ++ [.ref pt])) qc
        have prs : Paired (fun (e : Addr) (c : Key × V) => SqT K (upd H6 pc (.lst (ts.map V.ref ++ [.ref pt]))) e [kV c.1, c.2]) (ts ++ [pt]) (labD t ++ [(Sum.inr n, .str x)]) :=
          paired_snoc (a := pt) (b := (Sum.inr n, V.str x)) (SqT.of (Sc _ _ (Sl _ _ gt))) (Paired.mono (fun (e : Addr) (c : Key × V) (q : H4 e = some (.tup [kV c.1, c.2])) => SqT.of (Sc _ _ (S46 _ _ q))) pr4)
        refine ⟨pc, ts ++ [pt], labD t ++ [((Sum.inr n : Key), V.str x)], rfl, SqL.of (by rw [upd_same, List.map_append]; rfl), prs, fun pd qd => ?_⟩
        rw [merge_one k1 k2]
        have Sd := Same.new (u := .dK (labD (t ++ [(n, x)]))) qd
        have gd7 : (upd (upd H6 pc (.lst (ts.map V.ref ++ [.ref pt]))) pd (.dK (labD (t ++ [(n, x)])))) pd = _ := upd_same
        have S37 := S4'.trans (S46.trans (Sc.trans Sd))
        generalize upd (upd H6 pc (.lst (ts.map V.ref ++ [.ref pt]))) pd (.dK (labD (t ++ [(n, x)]))) = H7 at gd7 S37 ⊢
        have gM7 := S37 _ _ gM
        have up : ∀ (e : Addr) (u : Lb), H7 e = some (.dK (labD u)) → upd H7 M (.lst (es.map V.ref ++ [.ref pd])) e = some (.dK (labD u)) := fun e u h => by rw [upd_ne (ne_of h gM7 fun z => by cases z)]; exact h
        refine ⟨M, _, _, rfl, rfl, gM7, small6 (by have q : min m xs.length ≤ 20 := Nat.le_trans (Nat.min_le_right _ _) lx; rw [List.length_map]; omega), _, es ++ [pd], rfl, fun e o he' => ?_, by rw [upd_same, List.map_append]; rfl, ?_⟩
        · rw [upd_ne (ne_of_none he' qM)]; exact S37 _ _ (S3 _ _ he')
        · rw [get_take ex, List.map_append, ← List.append_assoc]
          exact paired_snoc (F := fun (e : Addr) (u : Lb) => upd H7 M (.lst (es.map V.ref ++ [.ref pd])) e = some (.dK (labD u))) (up _ _ gd7) (Paired.mono (fun e u h => up e u (S37 _ _ h)) he)
      · rintro σ H3 ⟨v6, es, rfl, S3, gM, he⟩
        rw [List.length_map, List.take_length] at he
        refine ⟨_, _, es, rfl, S3, gM, ?_⟩
        rw [get_take et, List.flatMap_append, List.flatMap_cons, List.flatMap_nil, List.append_nil]
        exact he
    · rintro σ H2 ⟨v5, v6, es, rfl, S2, gM, he⟩
      rw [List.length_map, ld, List.take_length] at he
      have le := paired_len he
      rw [flat_len _ xs.length _ fun _ _ => List.length_map _] at le
      refine ⟨_, rfl, _, rfl, F, M, _, _, rfl, rfl, S2 _ _ gF, gM, Nat.le_of_lt (small6 (by rw [List.length_map, List.length_map, ld, le]; omega)), fun G qG => ?_⟩
      refine ⟨G, _, _, _, _, rfl, S1.trans (S2.trans (Same.new qG)), ds ++ es, by rw [upd_same, List.map_append], ?_⟩
      exact paired_join (Paired.mono (fun _ _ q => Same.new qG _ _ (S2 _ _ q)) hd) (Paired.mono (fun _ _ q => Same.new qG _ _ q) he)
  · rintro σ H1 ⟨F, v3, v4, v5, v6, rfl, S1, L1⟩
    rw [List.length_map, List.take_length] at L1
    exact ⟨_, rfl, k F H1 S1 L1⟩

/-! ### the labels that are tried here are enough -/
def canon (f : Str → Option Str) (ms : List Str) : Lb := ms.filterMap fun n => (f n).map fun x => (n, x)
theorem canon_in {xs : List Str} {f : Str → Option Str} (hf : ∀ n x, f n = some x → x ∈ xs) : ∀ (ms : List Str) (acc : List Lb) (l : Lb), l ∈ acc → l ++ canon f ms ∈ ms.foldl (growL xs) acc
  | [], acc, l, h => by rw [show canon f [] = [] from rfl, List.append_nil]; exact h
  | n :: ms, acc, l, h => by
    rw [List.foldl_cons]
    cases e : f n with
    | none =>
      have : canon f (n :: ms) = canon f ms := by unfold canon; rw [List.filterMap_cons, e]; rfl
      rw [this]
      exact canon_in hf ms _ l (List.mem_append_left _ h)
    | some x =>
      have : canon f (n :: ms) = (n, x) :: canon f ms := by unfold canon; rw [List.filterMap_cons, e]; rfl
      rw [this, show l ++ (n, x) :: canon f ms = (l ++ [(n, x)]) ++ canon f ms by rw [List.append_assoc]; rfl]
      exact canon_in hf ms _ _ (List.mem_append_right _ (List.mem_flatMap.mpr ⟨l, h, List.mem_map.mpr ⟨x, hf n x e, rfl⟩⟩))
theorem canon_names (f : Str → Option Str) (ms : List Str) : (canon f ms).map (·.1) = ms.filter fun n => (f n).isSome := by
  unfold canon
  induction ms with
  | nil => rfl
  | cons n ms more =>
    rw [List.filterMap_cons, List.filter_cons]
    cases e : f n with
    | none => simpa [e] using more
    | some x => simpa [e] using more
theorem look_canon {f : Str → Option Str} {ms : List Str} (nd : ms.Nodup) {n : Str} (h : n ∈ ms) : look (canon f ms) n = (f n).map V.str := by
  have ndc : ((canon f ms).map (·.1)).Nodup := by rw [canon_names]; exact List.Sublist.nodup List.filter_sublist nd
  cases e : f n with
  | none =>
    refine look_none ?_
    rw [canon_names]
    intro z
    have := (List.mem_filter.mp z).2
    rw [e] at this
    cases this
  | some x => exact look_mem (p := (n, x)) ndc (List.mem_filterMap.mpr ⟨n, h, by rw [e]; rfl⟩)

/-! ### rows that are fulfilled alike have one normal text -/
theorem row_inj {r q : Row} (f : RowF r) (g : RowF q) (e : rowT r = rowT q) : r = q := by
  have mk : ∀ {r q : Row}, r.nm = q.nm → r.vb = q.vb → r.vl = q.vl → r = q := fun {r q} a b c => by obtain ⟨_, _, _⟩ := r; obtain ⟨_, _, _⟩ := q; dsimp only at a b c; subst a b c; rfl
  have two : ∀ {a b c d : Str}, [a, b] = [c, d] → a = c ∧ b = d := fun h => by injection h with h1 h2; injection h2 with h2 _; exact ⟨h1, h2⟩
  cases ev : r.vb with
  | missing =>
    obtain ⟨a1, a2, a3⟩ := f.mis ev
    cases ew : q.vb with
    | missing => obtain ⟨b1, b2, b3⟩ := g.mis ew; exact mk (by rw [← a2, ← b2, e]) (ev.trans ew.symm) (a3.trans b3.symm)
    | not => rw [e] at a1; exact absurd a1 (g.neg ew).1
    | is => rw [e] at a1; exact absurd a1 (g.pos ew).1
    | there => rw [e] at a1; exact absurd a1 (g.the ew).1
  | not =>
    obtain ⟨a1, a2, a3⟩ := f.neg ev
    rw [e] at a1 a2 a3
    cases ew : q.vb with
    | missing => exact absurd (g.mis ew).1 a1
    | not => obtain ⟨b1, b2⟩ := two (a3.symm.trans (g.neg ew).2.2); exact mk b1 (ev.trans ew.symm) b2
    | is => rw [(g.pos ew).2.1] at a2; cases a2
    | there => rw [(g.the ew).2.1] at a2; cases a2
  | is =>
    obtain ⟨a1, a2, a3, a4⟩ := f.pos ev
    rw [e] at a1 a2 a3 a4
    cases ew : q.vb with
    | missing => exact absurd (g.mis ew).1 a1
    | not => rw [(g.neg ew).2.1] at a2; cases a2
    | is => obtain ⟨b1, b2⟩ := two (a4.symm.trans (g.pos ew).2.2.2); exact mk b1 (ev.trans ew.symm) b2
    | there => rw [(g.the ew).2.2.1] at a3; cases a3
  | there =>
    obtain ⟨a1, a2, a3, a4, a5⟩ := f.the ev
    rw [e] at a1 a2 a3 a4
    cases ew : q.vb with
    | missing => exact absurd (g.mis ew).1 a1
    | not => rw [(g.neg ew).2.1] at a2; cases a2
    | is => rw [(g.pos ew).2.2.1] at a3; cases a3
    | there => obtain ⟨_, _, _, b4, b5⟩ := g.the ew; exact mk (a4.symm.trans b4) (ev.trans ew.symm) (a5.trans b5.symm)
theorem rows_inj : ∀ {r1 r2 : List Row}, (∀ r ∈ r1, RowF r) → (∀ r ∈ r2, RowF r) → r1.map rowT = r2.map rowT → r1 = r2
  | [], [], _, _, _ => rfl
  | [], _ :: _, _, _, e => nomatch e
  | _ :: _, [], _, _, e => nomatch e
  | r :: r1, q :: r2, f, g, e => by
    rw [List.map_cons, List.map_cons] at e
    injection e with e1 e2
    rw [row_inj (f r List.mem_cons_self) (g q List.mem_cons_self) e1, rows_inj (fun x hx => f x (List.mem_cons_of_mem _ hx)) (fun x hx => g x (List.mem_cons_of_mem _ hx)) e2]
theorem selT_inj {r1 r2 : List Row} (h1 : Rows8 r1) (h2 : Rows8 r2) (e : selT r1 = selT r2) : r1 = r2 := by
  by_cases n1 : r1 = []
  · subst n1
    by_cases n2 : r2 = []
    · exact n2.symm
    · rw [selT_nil] at e; exact absurd e.symm (selT_ne h2 n2)
  · by_cases n2 : r2 = []
    · subst n2; rw [selT_nil] at e; exact absurd e (selT_ne h1 n1)
    · have a := selT_split h1 n1
      rw [e, selT_split h2 n2] at a
      exact rows_inj (fun r hr => row_f (h1.2 r hr)) (fun r hr => row_f (h2.2 r hr)) a.symm
theorem own_nil {rs : List Row} {n : Str} (h : n ∉ rs.map (·.nm)) : ownR rs n = [] :=
  List.filter_eq_nil_iff.mpr fun r hr z => h (by rw [← of_decide_eq_true z]; exact List.mem_map_of_mem hr)
theorem bound_nil : boundOf [] = some (.not, []) := by
  unfold boundOf
  simp [anyV, valsOf, sortU_nil]
theorem bdOf_at {rs : List Row} (ok : okB rs = true) (n : Str) : boundOf (ownR rs n) = some (bdOf rs n) := by
  by_cases h : n ∈ rs.map (·.nm)
  · exact okB_at ok h
  · have e := own_nil h
    have : boundOf (ownR rs n) = some (.not, []) := by rw [e]; exact bound_nil
    rw [bdOf_eq this]; exact this
theorem bdOf_out {rs : List Row} {n : Str} (h : n ∉ rs.map (·.nm)) : bdOf rs n = (.not, []) := bdOf_eq (by rw [own_nil h]; exact bound_nil)
theorem bdOf_in {rs : List Row} (ok : okB rs = true) {n : Str} (h : n ∈ rs.map (·.nm)) : bdOf rs n ≠ (.not, []) := fun z => by
  have := nrowsOf_ne (n := n) (bound_form (bdOf_at ok n)) (own_ne h)
  rw [z] at this
  exact this rfl
section
variable {rs : List Row} {ns : List Str}
theorem ful_sat (ok : okB rs = true) (nd : ns.Nodup) (sub : ∀ r ∈ rs, r.nm ∈ ns) (f : Str → Option Str) : fulAll rs (canon f ns) = true ↔ ∀ n ∈ ns, satB (bdOf rs n) ((f n).map V.str) := by
  rw [asks_own]
  constructor
  · intro a n hn
    rw [← bound_some (bdOf_at ok n)]
    by_cases h : n ∈ rs.map (·.nm)
    · have := a n h
      rw [look_canon nd hn] at this
      exact this
    · rw [own_nil h]
      exact asks_iff.mp fun r hr => nomatch hr
  · intro a n hn
    obtain ⟨r, hr, rfl⟩ := List.mem_map.mp hn
    rw [look_canon nd (sub r hr), bound_some (bdOf_at ok r.nm)]
    exact a r.nm (sub r hr)
theorem none_all (no : okB rs = false) (kvs : Lb) : fulAll rs kvs = false := by
  cases e : fulAll rs kvs with
  | false => rfl
  | true =>
    exfalso
    obtain ⟨n, hn, z⟩ := List.all_eq_false.mp no
    have z : boundOf (ownR rs n) = none := by simpa using z
    exact bound_none z _ (asks_own.mp e n hn)
end
/-- a bound in the one form that it has: values among X, not z -/
def CanB (X : List Str) (z : Str) (b : Bd) : Prop := b = (.missing, []) ∨ (∃ x, x ∈ X ∧ x ≠ z ∧ b = (.is, [x])) ∨ ∃ l, (b = (.there, l) ∨ b = (.not, l)) ∧ sortU l = l ∧ ∀ v ∈ l, v ∈ X ∧ v ≠ z
theorem str_ne {x y : Str} (h : x ≠ y) : (some (V.str x) : Option V) ≠ some (V.str y) := fun z => h (by injection z with z; injection z)
section
variable {X : List Str} {z : Str} {b c : Bd}
theorem sat_none (h : CanB X z b) : satB b none ↔ b.1 = .missing ∨ b.1 = .not := by
  rcases h with rfl | ⟨x, _, _, rfl⟩ | ⟨l, rfl | rfl, _, _⟩
  · exact ⟨fun _ => .inl rfl, fun _ => rfl⟩
  · exact ⟨fun s => (nomatch s), fun s => by rcases s with s | s <;> cases s⟩
  · exact ⟨fun s => (nomatch s.1), fun s => by rcases s with s | s <;> cases s⟩
  · exact ⟨fun _ => .inr rfl, fun _ v _ => by simp⟩
theorem sat_z (h : CanB X z b) : satB b (some (.str z)) ↔ b.1 = .there ∨ b.1 = .not := by
  rcases h with rfl | ⟨x, _, ne, rfl⟩ | ⟨l, rfl | rfl, _, all⟩
  · exact ⟨fun s => (nomatch s), fun s => by rcases s with s | s <;> cases s⟩
  · exact ⟨fun s => absurd s (str_ne ne.symm), fun s => by rcases s with s | s <;> cases s⟩
  · exact ⟨fun _ => .inl rfl, fun _ => ⟨rfl, fun v hv => str_ne (all v hv).2.symm⟩⟩
  · exact ⟨fun _ => .inr rfl, fun _ v hv => str_ne (all v hv).2.symm⟩
theorem sat_one (hb : CanB X z b) (hc : CanB X z c) (zX : z ∈ X) (same : ∀ o : Option Str, (∀ x, o = some x → x ∈ X) → (satB b (o.map V.str) ↔ satB c (o.map V.str))) : b = c := by
  have s0 := (sat_none hb).symm.trans ((same none fun x e => nomatch e).trans (sat_none hc))
  have s1 := (sat_z hb).symm.trans ((same (some z) fun x e => by injection e with e; exact e ▸ zX).trans (sat_z hc))
  have one : ∀ x ∈ X, (satB b (some (.str x)) ↔ satB c (some (.str x))) := fun x hx => same (some x) fun y e => by injection e with e; exact e ▸ hx
  have lists : ∀ {l m : List Str}, sortU l = l → sortU m = m → (∀ v, v ∈ l ↔ v ∈ m) → l = m := fun {l m} a b h => by rw [← a, ← b]; exact sortU_ext h
  have key : ∀ {l m : List Str}, (∀ v ∈ l, v ∈ X ∧ v ≠ z) → (∀ v ∈ m, v ∈ X ∧ v ≠ z) → (∀ x ∈ X, ((∀ v ∈ l, (some (V.str x) : Option V) ≠ some (.str v)) ↔ ∀ v ∈ m, (some (V.str x) : Option V) ≠ some (.str v))) → ∀ v, v ∈ l ↔ v ∈ m := fun {l m} hl hm h v => by
    constructor
    · intro hv
      by_cases c : v ∈ m
      · exact c
      · exact absurd rfl ((h v (hl v hv).1).mpr (fun w hw => str_ne fun e => c (e ▸ hw)) v hv)
    · intro hv
      by_cases c : v ∈ l
      · exact c
      · exact absurd rfl ((h v (hm v hv).1).mp (fun w hw => str_ne fun e => c (e ▸ hw)) v hv)
  rcases hb with rfl | ⟨x, xX, xz, rfl⟩ | ⟨l, rfl | rfl, ls, lall⟩ <;> rcases hc with rfl | ⟨y, yX, yz, rfl⟩ | ⟨m, rfl | rfl, ms, mall⟩ <;> first | rfl | (simp at s0; done) | (simp at s1; done) | skip
  · have := (one x xX).mp rfl
    have e : x = y := by have h : (some (V.str x) : Option V) = some (.str y) := this; injection h with h; injection h
    rw [e]
  · rw [lists ls ms (key lall mall fun x hx => ⟨fun h => ((one x hx).mp ⟨rfl, h⟩).2, fun h => ((one x hx).mpr ⟨rfl, h⟩).2⟩)]
  · rw [lists ls ms (key lall mall fun x hx => one x hx)]
end
/-- what the law knows of rows: names among ns, values among X, z is not among them -/
structure SideU (X : List Str) (z : Str) (ns : List Str) (rs : List Row) : Prop where
  few : Rows8 rs
  nm : ∀ r ∈ rs, r.nm ∈ ns
  vl : ∀ r ∈ rs, r.vb = .is ∨ r.vb = .not → r.vl ∈ X ∧ r.vl ≠ z
section
variable {X ns : List Str} {z : Str} {rs r1 r2 : List Row}
theorem can_of (s : SideU X z ns rs) (ok : okB rs = true) (n : Str) : CanB X z (bdOf rs n) := by
  have f := bound_form (bdOf_at ok n)
  have vals : ∀ v x, v = .is ∨ v = .not → x ∈ valsOf v (ownR rs n) → x ∈ X ∧ x ≠ z := fun v x hv hx => by
    obtain ⟨q, h1, h2, h3⟩ := valsOf_mem.mp hx
    have := s.vl q (List.mem_filter.mp h1).1 (by rw [h2]; exact hv)
    rw [h3] at this
    exact this
  generalize bdOf rs n = b at f
  cases f with
  | missing h => exact .inl rfl
  | is x h => have q := vals .is x (.inl rfl) h; exact .inr (.inl ⟨x, q.1, q.2, rfl⟩)
  | there h => exact .inr (.inr ⟨_, .inl rfl, sortU_idem _, fun v hv => vals .not v (.inr rfl) (sortU_mem.mp hv)⟩)
  | not h1 h2 h3 => exact .inr (.inr ⟨_, .inr rfl, sortU_idem _, fun v hv => vals .not v (.inr rfl) (sortU_mem.mp hv)⟩)
theorem wit (s : SideU X z ns rs) (ok : okB rs = true) (zX : z ∈ X) : ∃ f : Str → Option Str, (∀ n x, f n = some x → x ∈ X) ∧ ∀ n, satB (bdOf rs n) ((f n).map V.str) := by
  have one : ∀ n, ∃ o : Option Str, (∀ x, o = some x → x ∈ X) ∧ satB (bdOf rs n) (o.map V.str) := fun n => by
    have c := can_of s ok n
    rcases id c with e | ⟨x, hx, _, e⟩ | ⟨l, e | e, _, _⟩
    · exact ⟨none, fun x h => (nomatch h), (sat_none c).mpr (.inl (by rw [e]))⟩
    · exact ⟨some x, fun y h => (by injection h with h; exact h ▸ hx), by rw [e]; rfl⟩
    · exact ⟨some z, fun y h => (by injection h with h; exact h ▸ zX), (sat_z c).mpr (.inl (by rw [e]))⟩
    · exact ⟨none, fun x h => (nomatch h), (sat_none c).mpr (.inr (by rw [e]))⟩
  exact ⟨fun n => (one n).choose, fun n x h => (one n).choose_spec.1 x h, fun n => (one n).choose_spec.2⟩
theorem bd_eq (nd : ns.Nodup) (s1 : SideU X z ns r1) (s2 : SideU X z ns r2) (zX : z ∈ X) (k1 : okB r1 = true) (k2 : okB r2 = true) (same : ∀ f : Str → Option Str, (∀ n x, f n = some x → x ∈ X) → fulAll r1 (canon f ns) = fulAll r2 (canon f ns)) :
    ∀ n ∈ ns, bdOf r1 n = bdOf r2 n := fun n hn => by
  obtain ⟨w, wX, ws⟩ := wit s1 k1 zX
  have w2 : ∀ m ∈ ns, satB (bdOf r2 m) ((w m).map V.str) := (ful_sat k2 nd s2.nm w).mp (by rw [← same w wX]; exact (ful_sat k1 nd s1.nm w).mpr fun m _ => ws m)
  refine sat_one (can_of s1 k1 n) (can_of s2 k2 n) zX fun o ho => ?_
  let f : Str → Option Str := fun m => if m = n then o else w m
  have fX : ∀ m x, f m = some x → x ∈ X := fun m x h => by
    simp only [f] at h
    split at h
    · exact ho x h
    · exact wX m x h
  have fn : f n = o := if_pos rfl
  have fm : ∀ m, m ≠ n → f m = w m := fun m h => if_neg h
  have go : ∀ {r : List Row}, okB r = true → (∀ q ∈ r, q.nm ∈ ns) → (∀ m ∈ ns, satB (bdOf r m) ((w m).map V.str)) → (fulAll r (canon f ns) = true ↔ satB (bdOf r n) (o.map V.str)) := fun {r} ok sub hw => by
    rw [ful_sat ok nd sub f]
    constructor
    · intro a; rw [← fn]; exact a n hn
    · intro a m hm
      by_cases e : m = n
      · rw [e, fn]; exact a
      · rw [fm m e]; exact hw m hm
  rw [← go k1 s1.nm fun m _ => ws m, ← go k2 s2.nm w2, same f fX]
theorem bs_eq (nd : ns.Nodup) (s1 : SideU X z ns r1) (s2 : SideU X z ns r2) (k1 : okB r1 = true) (k2 : okB r2 = true) (h : ∀ n ∈ ns, bdOf r1 n = bdOf r2 n) : bsOf r1 = bsOf r2 := by
  have names : ∀ n, n ∈ r1.map (·.nm) ↔ n ∈ r2.map (·.nm) := fun n => by
    constructor
    · intro m
      obtain ⟨r, hr, rfl⟩ := List.mem_map.mp m
      by_cases c : r.nm ∈ r2.map (·.nm)
      · exact c
      · exact absurd ((h _ (s1.nm r hr)).trans (bdOf_out c)) (bdOf_in k1 m)
    · intro m
      obtain ⟨r, hr, rfl⟩ := List.mem_map.mp m
      by_cases c : r.nm ∈ r1.map (·.nm)
      · exact c
      · exact absurd ((h _ (s2.nm r hr)).symm.trans (bdOf_out c)) (bdOf_in k2 m)
  unfold bsOf
  rw [sortU_ext names]
  refine List.map_congr_left fun n hn => ?_
  obtain ⟨r, hr, rfl⟩ := List.mem_map.mp (sortU_mem.mp hn)
  rw [h _ (s2.nm r hr)]
theorem norm_ok (ok : okB rs = true) : normV rs = .str (selT (nrows (bsOf rs))) := if_pos ok
theorem norm_no (no : okB rs = false) : normV rs = .non := if_neg (by rw [no]; exact Bool.false_ne_true)
theorem ok_ful (ok : okB rs = true) (t : Lb) : fulAll (nrows (bsOf rs)) t = fulAll rs t := nrows_ful (isB_of ok) t
theorem norm_iff (nd : ns.Nodup) (s1 : SideU X z ns r1) (s2 : SideU X z ns r2) (zX : z ∈ X) : normV r1 = normV r2 ↔ ∀ f : Str → Option Str, (∀ n x, f n = some x → x ∈ X) → fulAll r1 (canon f ns) = fulAll r2 (canon f ns) := by
  cases k1 : okB r1 with
  | false =>
    cases k2 : okB r2 with
    | false => exact ⟨fun _ f _ => by rw [none_all k1, none_all k2], fun _ => by rw [norm_no k1, norm_no k2]⟩
    | true =>
      refine ⟨fun e => (by rw [norm_no k1, norm_ok k2] at e; cases e), fun same => ?_⟩
      obtain ⟨w, wX, ws⟩ := wit s2 k2 zX
      have := same w wX
      rw [none_all k1, (ful_sat k2 nd s2.nm w).mpr fun m _ => ws m] at this
      cases this
  | true =>
    cases k2 : okB r2 with
    | false =>
      refine ⟨fun e => (by rw [norm_ok k1, norm_no k2] at e; cases e), fun same => ?_⟩
      obtain ⟨w, wX, ws⟩ := wit s1 k1 zX
      have := same w wX
      rw [none_all k2, (ful_sat k1 nd s1.nm w).mpr fun m _ => ws m] at this
      cases this
    | true =>
      constructor
      · intro e f _
        rw [norm_ok k1, norm_ok k2] at e
        injection e with e
        have q := selT_inj (nrows8 (isB_of k1) s1.few) (nrows8 (isB_of k2) s2.few) e
        rw [← ok_ful k1, ← ok_ful k2, q]
      · intro same
        rw [norm_ok k1, norm_ok k2, bs_eq nd s1 s2 k1 k2 (bd_eq nd s1 s2 zX k1 k2 same)]
theorem norm_none (nd : ns.Nodup) (s : SideU X z ns rs) (zX : z ∈ X) : normV rs = .non ↔ ∀ f : Str → Option Str, (∀ n x, f n = some x → x ∈ X) → fulAll rs (canon f ns) = false := by
  cases k : okB rs with
  | false => exact ⟨fun _ f _ => none_all k _, fun _ => norm_no k⟩
  | true =>
    refine ⟨fun e => (by rw [norm_ok k] at e; cases e), fun all => ?_⟩
    obtain ⟨w, wX, ws⟩ := wit s k zX
    have := all w wX
    rw [(ful_sat k nd s.nm w).mpr fun m _ => ws m] at this
    cases this
end
theorem norm_again {rs : List Row} (ok : okB rs = true) : normV (nrows (bsOf rs)) = normV rs := by
  have h := isB_again (isB_of ok)
  rw [norm_ok (isB_ok h), ← isB_eq h, norm_ok ok]
theorem row_of {r : Row} (h : r ∈ allRows) : r.nm ∈ names4 ∧ r.vl ∈ vals8 := by
  obtain ⟨n, hn, h⟩ := List.mem_flatMap.mp h
  rcases List.mem_append.mp h with h | h
  · obtain ⟨v, hv, h⟩ := List.mem_flatMap.mp h
    simp only [List.mem_cons, List.not_mem_nil, or_false] at h
    rcases h with rfl | rfl <;> exact ⟨hn, hv⟩
  · simp only [List.mem_cons, List.not_mem_nil, or_false] at h
    rcases h with rfl | rfl <;> exact ⟨hn, by simp [vals8]⟩
theorem now_not : ∀ z ∈ vals8, z ≠ "nowhere" := by decide +kernel
theorem names_nd : names4.Nodup := by decide +kernel
/-- rows that are fulfilled alike -/
theorem norm_same {r1 r2 : List Row} (h1 : Rows8 r1) (h2 : Rows8 r2) (same : ∀ t : Lb, fulAll r1 t = fulAll r2 t) : normV r1 = normV r2 := by
  have side : ∀ {r : List Row}, Rows8 r → SideU ("nowhere" :: vals8) "nowhere" names4 r := fun {r} h => ⟨h, fun q hq => (row_of (h.2 q hq)).1, fun q hq _ => ⟨List.mem_cons_of_mem _ (row_of (h.2 q hq)).2, now_not _ (row_of (h.2 q hq)).2⟩⟩
  exact (norm_iff names_nd (side h1) (side h2) List.mem_cons_self).mpr fun f _ => same _

/-! ### a list of anything against the empty list -/
def rNil (K : PySem.W.Frag) (tell : Bool → Bool) : R2 := fun x y H Q => ∃ (a b : Addr) (xs : List V), x = .ref a ∧ y = .ref b ∧ SqL K H a xs ∧ SqL K H b [] ∧ Q (.bl (tell xs.isEmpty)) H
abbrev rNeNil (K : PySem.W.Frag) : R2 := rNil K not
abbrev rEqNil (K : PySem.W.Frag) : R2 := rNil K id
/-- what stands at the two addresses, as the model's lists; the second has no items -/
theorem nil_items {X : Cx} {pins : List (Addr × Obj)} {σ : L2.St} {H : Hp} {s : Shared} {a b : Addr} {xs : List V} (I : Inv X pins σ H s) (one : SqL X.K H a xs) (two : SqL X.K H b []) :
    ∃ us : List Value, Vals xs us ∧ s.heap.IsList a us.toArray ∧ s.heap.IsList b #[] :=
  have ⟨us, vals, at1, _⟩ := I.list one
  have ⟨_, none_, at2, _⟩ := I.list two
  ⟨us, vals, at1.isList, by cases none_; exact at2.isList⟩
theorem op_neNil {X : Cx} (hu : X.A.units + 64 < cLine) : OpR X (compareOp .NotEq) (rNeNil X.K) := fun pins s σ H x y v u Q I rx ry ⟨a, b, xs, ex, ey, one, two, told⟩ => by
  subst ex ey; cases rx; cases ry
  have ⟨us, vals, A1, A2⟩ := nil_items I one two
  match xs, us, vals with
  | [], [], _ => exact PySem.SeqAt.RcNeAt.lists (e := fun _ => true) A1 A2 rfl (by omega) (fun _ lt _ => nomatch lt) _ _ _ _ ⟨.bl false, H, I, rfl, told⟩
  | _ :: _, _ :: _, _ => exact PySem.SeqAt.RcNeAt.lists_lengths A1 A2 (by simp) (by omega) _ _ _ _ ⟨.bl true, H, I, rfl, told⟩
theorem op_eqNil {X : Cx} (hu : X.A.units + 64 < cLine) : OpR X (compareOp .Eq) (rEqNil X.K) := fun pins s σ H x y v u Q I rx ry ⟨a, b, xs, ex, ey, one, two, told⟩ => by
  subst ex ey; cases rx; cases ry
  have ⟨us, vals, A1, A2⟩ := nil_items I one two
  match xs, us, vals with
  | [], [], _ => exact PySem.SeqAt.RcAt.lists (e := fun _ => true) A1 A2 rfl (by omega) (fun _ lt _ => nomatch lt) _ _ _ _ ⟨.bl true, H, I, rfl, told⟩
  | _ :: _, _ :: _, _ => exact PySem.SeqAt.RcAt.lists_lengths A1 A2 (by simp) (by omega) _ _ _ _ ⟨.bl false, H, I, rfl, told⟩

/-! ### comprehensions that choose among the items of a list -/
theorem filter_snoc {α : Type} (c : α → Bool) (as : List α) (a : α) : (as ++ [a]).filter c = as.filter c ++ (if c a = true then [a] else []) := by
  rw [List.filter_append]
  congr 1
  cases e : c a <;> simp [e]
theorem lc_sel {K : PySem.W.Frag} {L D : Addr} {α : Type} (as : List α) (v e : α → V) (c : α → Bool) {g : TG} {tt : TT} {te : TE} {vs : List Nat} {σ : L2.St} {H : Hp} {Qd : Hp → Prop} (gL : H L = some (.lst (as.map v))) (few : as.length ≤ 100000) (hD : H D = none)
    (step : ∀ a ∈ as, ∀ (H' : Hp) (Y : VK) (N : Hp → Prop), Same H H' → (∀ H'', Same H' H'' → (c a = true → Y (e a) H'') ∧ (c a = false → N H'')) → g (v a) (wipe σ vs) H' fun σ2 H2 => wipe σ2 vs = wipe σ vs ∧ tt σ2 H2 fun b H3 => if b = true then te σ2 H3 Y else N H3)
    (done : ∀ H', Same H H' → H' D = some (.lst ((as.filter c).map e)) → Qd H') :
    ∃ W : Nat → Nat → Hp → Prop, (∃ m, W 0 m (upd H D (.lst []))) ∧ ∀ i m H, W i m H →
      ((Itl K L).stop i H ∧ Qd H) ∨ ((Itl K L).go i H ∧ ∃ Nx : Hp → Prop, (∀ H', Nx H' → ∃ m', m' < m ∧ W (i + 1) m' H') ∧ ∀ x H', (Itl K L).yld i H x H' → g x (wipe σ vs) H' fun σ2 H2 => wipe σ2 vs = wipe σ vs ∧ tt σ2 H2 fun b H3 =>
        if b = true then te σ2 H3 fun y H4 => ∃ acc, H4 D = some (.lst acc) ∧ acc.length < sizeLine ∧ Nx (upd H4 D (.lst (acc ++ [y]))) else Nx H3) := by
  refine lc_list (K := K) (a := L) (xs := as.map v) (fun i H' => Same H H' ∧ H' D = some (.lst (((as.take i).filter c).map e))) ⟨Same.new hD, upd_same⟩ (fun i H' _ p => SqL.of (p.1 _ _ gL)) ?_ ?_
  · rintro i x H1 hx ⟨S1, gD⟩
    rw [List.getElem?_map] at hx
    obtain ⟨a, ea, rfl⟩ := Option.map_eq_some_iff.mp hx
    refine step a (mem_at ea) H1 _ _ S1 fun H2 S2 => ⟨fun yes => ?_, fun no => ?_⟩
    · refine ⟨_, S2 _ _ gD, small6 ?_, fun b o hb => ?_, ?_⟩
      · rw [List.length_map]
        have := List.length_filter_le c (as.take i)
        rw [List.length_take] at this
        omega
      · rw [upd_ne (ne_of_none hb hD)]; exact S2 _ _ (S1 _ _ hb)
      · rw [upd_same, get_take ea, filter_snoc, yes, List.map_append]; rfl
    · refine ⟨S1.trans S2, ?_⟩
      rw [get_take ea, filter_snoc, no, if_neg Bool.false_ne_true, List.append_nil]
      exact S2 _ _ gD
  · rintro H1 ⟨S1, gD⟩
    rw [List.length_map, List.take_length] at gD
    exact done H1 S1 gD
/-- rows with their addresses -/
theorem rows_zip {H : Hp} {L : Addr} {rs : List Row} (h : RowsAt H L rs) : ∃ as : List (Addr × Row), H L = some (.lst (as.map fun a => V.ref a.1)) ∧ as.map (·.2) = rs ∧ ∀ a ∈ as, RowAt H a.1 a.2 := by
  obtain ⟨ps, gL, hp⟩ := h
  suffices q : ∀ {ps : List Addr} {rs : List Row}, Paired (RowAt H) ps rs → ∃ as : List (Addr × Row), as.map (fun a => V.ref a.1) = ps.map V.ref ∧ as.map (·.2) = rs ∧ ∀ a ∈ as, RowAt H a.1 a.2 by
    obtain ⟨as, e1, e2, e3⟩ := q hp
    exact ⟨as, by rw [gL, e1], e2, e3⟩
  intro ps rs hp
  induction hp with
  | nil => exact ⟨[], rfl, rfl, fun a ha => nomatch ha⟩
  | @cons p r ps rs one _ more =>
    obtain ⟨as, e1, e2, e3⟩ := more
    refine ⟨(p, r) :: as, by rw [List.map_cons, e1]; rfl, by rw [List.map_cons, e2], fun a ha => ?_⟩
    rcases List.mem_cons.mp ha with e | ha
    · rw [e]; exact one
    · exact e3 a ha
theorem zip_rows {H : Hp} {L : Addr} {as : List (Addr × Row)} (gL : H L = some (.lst (as.map fun a => V.ref a.1))) (h : ∀ a ∈ as, RowAt H a.1 a.2) : RowsAt H L (as.map (·.2)) := by
  refine ⟨as.map (·.1), by rw [gL, List.map_map]; rfl, ?_⟩
  clear gL
  induction as with
  | nil => exact .nil
  | cons a as more => exact .cons (h a List.mem_cons_self) (more fun b hb => h b (List.mem_cons_of_mem _ hb))
section
variable {K : PySem.W.Frag} {L D : Addr} {rs : List Row} {g : TG} {tt : TT} {te : TE} {vs : List Nat} {σ : L2.St} {H : Hp} {Qd : Hp → Prop}
theorem lc_strs (c : Row → Bool) (f : Row → Str) (hR : RowsAt H L rs) (few : rs.length ≤ 100) (hD : H D = none)
    (step : ∀ p, ∀ r ∈ rs, RowAt H p r → ∀ (H' : Hp) (Y : VK) (N : Hp → Prop), Same H H' → (∀ H'', Same H' H'' → (c r = true → Y (.str (f r)) H'') ∧ (c r = false → N H'')) → g (.ref p) (wipe σ vs) H' fun σ2 H2 => wipe σ2 vs = wipe σ vs ∧ tt σ2 H2 fun b H3 => if b = true then te σ2 H3 Y else N H3)
    (done : ∀ H', Same H H' → H' D = some (.lst (((rs.filter c).map f).map V.str)) → Qd H') :
    ∃ W : Nat → Nat → Hp → Prop, (∃ m, W 0 m (upd H D (.lst []))) ∧ ∀ i m H, W i m H →
      ((Itl K L).stop i H ∧ Qd H) ∨ ((Itl K L).go i H ∧ ∃ Nx : Hp → Prop, (∀ H', Nx H' → ∃ m', m' < m ∧ W (i + 1) m' H') ∧ ∀ x H', (Itl K L).yld i H x H' → g x (wipe σ vs) H' fun σ2 H2 => wipe σ2 vs = wipe σ vs ∧ tt σ2 H2 fun b H3 =>
        if b = true then te σ2 H3 fun y H4 => ∃ acc, H4 D = some (.lst acc) ∧ acc.length < sizeLine ∧ Nx (upd H4 D (.lst (acc ++ [y]))) else Nx H3) := by
  obtain ⟨as, gL, rfl, rows⟩ := rows_zip hR
  rw [List.length_map] at few
  refine lc_sel as (fun a => V.ref a.1) (fun a => V.str (f a.2)) (fun a => c a.2) gL (by omega) hD (fun a ha H' Y N S k => step a.1 a.2 (List.mem_map_of_mem ha) (rows a ha) H' Y N S k) fun H' S gD => done H' S ?_
  rw [gD, List.filter_map, List.map_map, List.map_map]
  rfl
theorem lc_rows (c : Row → Bool) (hR : RowsAt H L rs) (few : rs.length ≤ 100) (hD : H D = none)
    (step : ∀ p, ∀ r ∈ rs, RowAt H p r → ∀ (H' : Hp) (Y : VK) (N : Hp → Prop), Same H H' → (∀ H'', Same H' H'' → (c r = true → Y (.ref p) H'') ∧ (c r = false → N H'')) → g (.ref p) (wipe σ vs) H' fun σ2 H2 => wipe σ2 vs = wipe σ vs ∧ tt σ2 H2 fun b H3 => if b = true then te σ2 H3 Y else N H3)
    (done : ∀ H', Same H H' → RowsAt H' D (rs.filter c) → Qd H') :
    ∃ W : Nat → Nat → Hp → Prop, (∃ m, W 0 m (upd H D (.lst []))) ∧ ∀ i m H, W i m H →
      ((Itl K L).stop i H ∧ Qd H) ∨ ((Itl K L).go i H ∧ ∃ Nx : Hp → Prop, (∀ H', Nx H' → ∃ m', m' < m ∧ W (i + 1) m' H') ∧ ∀ x H', (Itl K L).yld i H x H' → g x (wipe σ vs) H' fun σ2 H2 => wipe σ2 vs = wipe σ vs ∧ tt σ2 H2 fun b H3 =>
        if b = true then te σ2 H3 fun y H4 => ∃ acc, H4 D = some (.lst acc) ∧ acc.length < sizeLine ∧ Nx (upd H4 D (.lst (acc ++ [y]))) else Nx H3) := by
  obtain ⟨as, gL, rfl, rows⟩ := rows_zip hR
  rw [List.length_map] at few
  refine lc_sel as (fun a => V.ref a.1) (fun a => V.ref a.1) (fun a => c a.2) gL (by omega) hD (fun a ha H' Y N S k => step a.1 a.2 (List.mem_map_of_mem ha) (rows a ha) H' Y N S k) fun H' S gD => done H' S ?_
  rw [List.filter_map]
  exact zip_rows gD fun a ha => S _ _ (rows a (List.mem_filter.mp ha).1)
end
/-- sorted(set(list of texts)) -/
theorem set_sort {P : Program} {w : World} {K : PySem.W.Frag} {H : Hp} {a : Addr} {xs : List Str} {Q : VK} (ga : H a = some (.lst (xs.map V.str))) (few : xs.length ≤ 60) (k : ∀ p H', Same H H' → H p = none → H' p = some (.lst ((sortU xs).map V.str)) → Q (.ref p) H') :
    rSetTx K P w [.ref a] H fun u H2 => rSortTx P w [u] H2 Q := by
  have l := putAll_len xs []
  rw [List.length_nil] at l
  exact ⟨a, xs, rfl, SqL.of ga, (by unfold scanBound; omega), fun p q => ⟨p, _, rfl, upd_same, by omega, fun p2 q2 => k p2 _ ((Same.new q).trans (Same.new q2)) ((Same.new q).free q2) upd_same⟩⟩

/-! ### possible rows: no contradiction, eight needed names at most -/
def needNm (rs : List Row) : List Str := (rs.filter fun r => needV r.vb).map (·.nm)
def posB (rs : List Row) : Bool := okB rs && decide ((sortU (needNm rs)).length ≤ 8)
theorem need_own {rs : List Row} {b : Bd} (h : boundOf rs = some b) : needV b.1 = true ↔ ∃ r ∈ rs, needV r.vb = true := by
  have f := bound_form h
  have a := fun o => bound_some h o
  constructor
  · intro n
    cases f with
    | missing _ => cases n
    | is x hx => obtain ⟨r, h1, h2, _⟩ := valsOf_mem.mp hx; exact ⟨r, h1, by rw [h2]; rfl⟩
    | there ht => obtain ⟨r, h1, h2⟩ := anyV_iff.mp ht; exact ⟨r, h1, by rw [h2]; rfl⟩
    | not _ _ _ => cases n
  · rintro ⟨r, hr, n⟩
    have two : r.vb = .is ∨ r.vb = .there := by revert n; cases r.vb <;> simp [needV]
    cases f with
    | missing hm =>
      have q := (a none).mpr rfl
      rcases two with e | e
      · exact nomatch q.is_ _ (valsOf_mem.mpr ⟨r, hr, e, rfl⟩)
      · exact nomatch q.there_ (anyV_iff.mpr ⟨r, hr, e⟩)
    | is x hx => rfl
    | there ht => rfl
    | not h1 h2 h3 =>
      rcases two with e | e
      · have := valsOf_mem.mpr ⟨r, hr, e, rfl⟩
        rw [h3] at this
        cases this
      · rw [anyV_iff.mpr ⟨r, hr, e⟩] at h1; cases h1
theorem needV_in {rs : List Row} {n : Str} (h : needV (bdOf rs n).1 = true) : n ∈ rs.map (·.nm) := by
  cases z : decide (n ∈ rs.map (·.nm)) with
  | true => exact of_decide_eq_true z
  | false => rw [bdOf_out (of_decide_eq_false z)] at h; cases h
theorem mem_needed {rs : List Row} {n : Str} : n ∈ neededL (bsOf rs) ↔ needV (bdOf rs n).1 = true := by
  constructor
  · intro h
    obtain ⟨b, hb, rfl⟩ := List.mem_map.mp h
    obtain ⟨b1, b2⟩ := List.mem_filter.mp hb
    obtain ⟨m, _, rfl⟩ := List.mem_map.mp b1
    exact b2
  · intro h
    exact List.mem_map.mpr ⟨(n, bdOf rs n), List.mem_filter.mpr ⟨List.mem_map.mpr ⟨n, sortU_mem.mpr (needV_in h), rfl⟩, h⟩, rfl⟩
theorem needed_once {rs : List Row} (ok : okB rs = true) : (neededL (bsOf rs)).Nodup := List.Sublist.nodup (List.Sublist.map _ List.filter_sublist) (isB_once (isB_of ok))
theorem needed_len {rs : List Row} (ok : okB rs = true) : (neededL (bsOf rs)).length = (sortU (needNm rs)).length := by
  have mem : ∀ n, n ∈ neededL (bsOf rs) ↔ n ∈ sortU (needNm rs) := fun n => by
    rw [mem_needed, need_own (bdOf_at ok n), sortU_mem]
    constructor
    · rintro ⟨r, hr, h⟩
      obtain ⟨h1, h2⟩ := List.mem_filter.mp hr
      rw [← of_decide_eq_true h2]
      exact List.mem_map_of_mem (List.mem_filter.mpr ⟨h1, h⟩)
    · intro h
      obtain ⟨r, hr, rfl⟩ := List.mem_map.mp h
      obtain ⟨h1, h2⟩ := List.mem_filter.mp hr
      exact ⟨r, List.mem_filter.mpr ⟨h1, decide_eq_true rfl⟩, h2⟩
  exact Nat.le_antisymm (within_len (needed_once ok) fun n h => (mem n).mp h) (within_len (sortU_once _) fun n h => (mem n).mpr h)
theorem pos_is {rs : List Row} (h : posB rs = true) : IsB rs (bsOf rs) ∧ (neededL (bsOf rs)).length ≤ 8 := by
  obtain ⟨ok, le⟩ := Bool.and_eq_true_iff.mp h
  exact ⟨isB_of ok, by rw [needed_len ok]; exact of_decide_eq_true le⟩
theorem pos_of {rs : List Row} {bs : List (Str × Bd)} (h : IsB rs bs) (le : (neededL bs).length ≤ 8) : posB rs = true := by
  have ok := isB_ok h
  rw [isB_eq h, needed_len ok] at le
  unfold posB
  rw [ok, decide_eq_true le]; rfl
theorem noB_iff {rs : List Row} : NoB rs ↔ posB rs = false := by
  constructor
  · intro h
    cases p : posB rs with
    | false => rfl
    | true =>
      obtain ⟨i, le⟩ := pos_is p
      rcases h with ⟨n, hn, e⟩ | ⟨bs, hb, big⟩
      · rw [okB_at (isB_ok i) hn] at e; cases e
      · rw [isB_eq hb] at big; omega
  · intro h
    cases ok : okB rs with
    | false =>
      obtain ⟨n, hn, z⟩ := List.all_eq_false.mp ok
      exact .inl ⟨n, hn, by simpa using z⟩
    | true =>
      unfold posB at h
      rw [ok, Bool.true_and] at h
      refine .inr ⟨bsOf rs, isB_of ok, ?_⟩
      rw [needed_len ok]
      have := of_decide_eq_false h
      omega
theorem pos_sem {rs : List Row} (few : rs.length ≤ 26) : posB rs = true ↔ ∃ t : Lb, t.length ≤ 8 ∧ fulAll rs t = true := by
  constructor
  · intro h
    obtain ⟨i, le⟩ := pos_is h
    refine ⟨labelsF (bsOf rs), ?_, labels_ful i few⟩
    have : (labelsF (bsOf rs)).length = (neededL (bsOf rs)).length := by rw [← labelsF_names, List.length_map]
    omega
  · rintro ⟨t, le, f⟩
    cases p : posB rs with
    | true => rfl
    | false => rw [none_ful (noB_iff.mpr p) le] at f; cases f
/-- the second one fulfilled, the first one is, too -/
def covB (r1 r2 : List Row) : Bool := r1.all fun r => !posB (r2 ++ [oppR r])
theorem cov_sem {r1 r2 : List Row} (few : r2.length ≤ 25) : covB r1 r2 = true ↔ ∀ t : Lb, t.length ≤ 8 → fulAll r2 t = true → fulAll r1 t = true := by
  have len : ∀ r : Row, (r2 ++ [oppR r]).length ≤ 26 := fun r => by rw [List.length_append]; show _ + 1 ≤ 26; omega
  constructor
  · intro h t le f
    cases q : fulAll r1 t with
    | true => rfl
    | false =>
      obtain ⟨r, hr, o⟩ := not_ful.mp q
      have := List.all_eq_true.mp h r hr
      rw [(pos_sem (len r)).mpr ⟨t, le, by rw [fulAll_app, f, o]; rfl⟩] at this
      cases this
  · intro h
    refine List.all_eq_true.mpr fun r hr => ?_
    cases p : posB (r2 ++ [oppR r]) with
    | false => rfl
    | true =>
      obtain ⟨t, le, f⟩ := (pos_sem (len r)).mp p
      rw [fulAll_app, Bool.and_eq_true_iff] at f
      have := h t le f.1
      rw [not_ful.mpr ⟨r, hr, f.2⟩] at this
      cases this
theorem cov_no {r1 r2 : List Row} (h : covB r1 r2 = true) : ∀ r ∈ r1, NoB (r2 ++ [oppR r]) := fun r hr => noB_iff.mpr (by simpa using List.all_eq_true.mp h r hr)
theorem cov_yes {r1 r2 : List Row} {r : Row} {bs : List (Str × Bd)} (hr : r ∈ r1) (h : IsB (r2 ++ [oppR r]) bs) (le : (neededL bs).length ≤ 8) : covB r1 r2 = false :=
  List.all_eq_false.mpr ⟨r, hr, by rw [pos_of h le]; decide⟩
theorem cov_of_no {r1 r2 : List Row} (h : ∀ r ∈ r1, NoB (r2 ++ [oppR r])) : covB r1 r2 = true := List.all_eq_true.mpr fun r hr => by rw [noB_iff.mp (h r hr)]; rfl
/-- eight rows at most need eight names at most -/
theorem pos8 {rs : List Row} (few : rs.length ≤ 8) : posB rs = okB rs := by
  cases ok : okB rs with
  | false => unfold posB; rw [ok]; rfl
  | true =>
    have a := isB_few (isB_of ok)
    have b := neededL_len (bsOf rs)
    exact pos_of (isB_of ok) (by omega)
section
variable {X ns : List Str} {z : Str} {rs r1 r2 : List Row}
/-- a witness that has just the needed names -/
theorem wit_min (s : SideU X z ns rs) (ok : okB rs = true) (zX : z ∈ X) : ∃ f : Str → Option Str, (∀ n x, f n = some x → x ∈ X) ∧ (∀ n, satB (bdOf rs n) ((f n).map V.str)) ∧ ∀ n, (f n).isSome = true → needV (bdOf rs n).1 = true := by
  have one : ∀ n, ∃ o : Option Str, (∀ x, o = some x → x ∈ X) ∧ satB (bdOf rs n) (o.map V.str) ∧ (o.isSome = true → needV (bdOf rs n).1 = true) := fun n => by
    have c := can_of s ok n
    rcases id c with e | ⟨x, hx, _, e⟩ | ⟨l, e | e, _, _⟩
    · exact ⟨none, fun x h => (nomatch h), (sat_none c).mpr (.inl (by rw [e])), fun h => nomatch h⟩
    · exact ⟨some x, fun y h => (by injection h with h; exact h ▸ hx), (by rw [e]; rfl), fun _ => by rw [e]; rfl⟩
    · exact ⟨some z, fun y h => (by injection h with h; exact h ▸ zX), (sat_z c).mpr (.inl (by rw [e])), fun _ => by rw [e]; rfl⟩
    · exact ⟨none, fun x h => (nomatch h), (sat_none c).mpr (.inr (by rw [e])), fun h => nomatch h⟩
  exact ⟨fun n => (one n).choose, fun n x h => (one n).choose_spec.1 x h, fun n => (one n).choose_spec.2.1, fun n => (one n).choose_spec.2.2⟩
theorem canon_len (nd : ns.Nodup) {f : Str → Option Str} {ks : List Str} (sub : ∀ n ∈ ns, (f n).isSome = true → n ∈ ks) : (canon f ns).length ≤ ks.length := by
  have e : (canon f ns).length = (ns.filter fun n => (f n).isSome).length := by rw [← canon_names, List.length_map]
  rw [e]
  refine within_len (List.Sublist.nodup List.filter_sublist nd) fun n hn => ?_
  obtain ⟨h1, h2⟩ := List.mem_filter.mp hn
  exact sub n h1 h2
theorem needed8 (s : SideU X z ns rs) (ok : okB rs = true) : (neededL (bsOf rs)).length ≤ 8 := by
  have a := isB_few (isB_of ok)
  have b := neededL_len (bsOf rs)
  have := s.few.1
  omega
theorem full8 (s : SideU X z ns rs) (ok : okB rs = true) (h : (neededL (bsOf rs)).length = 8) {n : Str} (no : needV (bdOf rs n).1 = false) : bdOf rs n = (.not, []) := by
  refine bdOf_out fun hn => ?_
  have a := isB_few (isB_of ok)
  have e := need8 (by have := s.few.1; omega) h
  have : n ∈ neededL (bsOf rs) := by
    rw [e, (isB_of ok).1]
    exact sortU_mem.mpr hn
  rw [mem_needed.mp this] at no
  cases no
theorem need_same (nd : ns.Nodup) (s1 : SideU X z ns r1) (s2 : SideU X z ns r2) (zX : z ∈ X) (k1 : okB r1 = true) (k2 : okB r2 = true) (same : ∀ t : Lb, t.length ≤ 8 → fulAll r1 t = fulAll r2 t) :
    ∀ n ∈ ns, needV (bdOf r2 n).1 = true → needV (bdOf r1 n).1 = true := fun n hn h => by
  obtain ⟨w, wX, ws, wm⟩ := wit_min s1 k1 zX
  have le : (canon w ns).length ≤ 8 := Nat.le_trans (canon_len nd fun n _ h => mem_needed.mpr (wm n h)) (needed8 s1 k1)
  have w2 := (ful_sat k2 nd s2.nm w).mp (by rw [← same _ le]; exact (ful_sat k1 nd s1.nm w).mpr fun m _ => ws m)
  have := need_some h (w2 n hn)
  exact wm n (by simpa using this)
theorem bd_eq8 (nd : ns.Nodup) (s1 : SideU X z ns r1) (s2 : SideU X z ns r2) (zX : z ∈ X) (k1 : okB r1 = true) (k2 : okB r2 = true) (same : ∀ t : Lb, t.length ≤ 8 → fulAll r1 t = fulAll r2 t) :
    ∀ n ∈ ns, bdOf r1 n = bdOf r2 n := fun n hn => by
  have n12 := need_same nd s1 s2 zX k1 k2 same
  have n21 := need_same nd s2 s1 zX k2 k1 fun t le => (same t le).symm
  have all : ∀ {r : List Row}, SideU X z ns r → ∀ m, needV (bdOf r m).1 = true → m ∈ ns := fun {r} s m h => by
    obtain ⟨q, hq, rfl⟩ := List.mem_map.mp (needV_in h)
    exact s.nm q hq
  have nn : (neededL (bsOf r1)).length = (neededL (bsOf r2)).length := Nat.le_antisymm
    (within_len (needed_once k1) fun m h => mem_needed.mpr (n21 m (all s1 m (mem_needed.mp h)) (mem_needed.mp h)))
    (within_len (needed_once k2) fun m h => mem_needed.mpr (n12 m (all s2 m (mem_needed.mp h)) (mem_needed.mp h)))
  by_cases full : (neededL (bsOf r1)).length = 8 ∧ needV (bdOf r1 n).1 = false
  · obtain ⟨f1, f2⟩ := full
    rw [full8 s1 k1 f1 f2, full8 s2 k2 (by omega)]
    cases q : needV (bdOf r2 n).1 with
    | false => rfl
    | true => rw [n12 n hn q] at f2; cases f2
  obtain ⟨w, wX, ws, wm⟩ := wit_min s1 k1 zX
  have le : (canon w ns).length ≤ 8 := Nat.le_trans (canon_len nd fun n _ h => mem_needed.mpr (wm n h)) (needed8 s1 k1)
  have w2 : ∀ m ∈ ns, satB (bdOf r2 m) ((w m).map V.str) := (ful_sat k2 nd s2.nm w).mp (by rw [← same _ le]; exact (ful_sat k1 nd s1.nm w).mpr fun m _ => ws m)
  refine sat_one (can_of s1 k1 n) (can_of s2 k2 n) zX fun o ho => ?_
  let f : Str → Option Str := fun m => if m = n then o else w m
  have fn : f n = o := if_pos rfl
  have fm : ∀ m, m ≠ n → f m = w m := fun m h => if_neg h
  have lf : (canon f ns).length ≤ 8 := by
    have e8 := needed8 s1 k1
    by_cases nd1 : needV (bdOf r1 n).1 = true
    · refine Nat.le_trans (canon_len nd (ks := neededL (bsOf r1)) fun m _ h => ?_) e8
      by_cases e : m = n
      · rw [e]; exact mem_needed.mpr nd1
      · rw [fm m e] at h; exact mem_needed.mpr (wm m h)
    · have : (neededL (bsOf r1)).length ≠ 8 := fun z => full ⟨z, by simpa using nd1⟩
      refine Nat.le_trans (canon_len nd (ks := n :: neededL (bsOf r1)) fun m _ h => ?_) (by rw [List.length_cons]; omega)
      by_cases e : m = n
      · rw [e]; exact List.mem_cons_self
      · rw [fm m e] at h; exact List.mem_cons_of_mem _ (mem_needed.mpr (wm m h))
  have go : ∀ {r : List Row}, okB r = true → (∀ q ∈ r, q.nm ∈ ns) → (∀ m ∈ ns, satB (bdOf r m) ((w m).map V.str)) → (fulAll r (canon f ns) = true ↔ satB (bdOf r n) (o.map V.str)) := fun {r} ok sub hw => by
    rw [ful_sat ok nd sub f]
    constructor
    · intro a; rw [← fn]; exact a n hn
    · intro a m hm
      by_cases e : m = n
      · rw [e, fn]; exact a
      · rw [fm m e]; exact hw m hm
  rw [← go k1 s1.nm fun m _ => ws m, ← go k2 s2.nm w2, same _ lf]
end
theorem side8 {r : List Row} (h : Rows8 r) : SideU ("nowhere" :: vals8) "nowhere" names4 r := ⟨h, fun q hq => (row_of (h.2 q hq)).1, fun q hq _ => ⟨List.mem_cons_of_mem _ (row_of (h.2 q hq)).2, now_not _ (row_of (h.2 q hq)).2⟩⟩
/-- equal normal texts exactly if each covers the other -/
theorem norm_cov {r1 r2 : List Row} (h1 : Rows8 r1) (h2 : Rows8 r2) : normV r1 = normV r2 ↔ covB r1 r2 = true ∧ covB r2 r1 = true := by
  have f1 := h1.1
  have f2 := h2.1
  rw [cov_sem (by omega), cov_sem (by omega)]
  have some_ : ∀ {r : List Row}, Rows8 r → okB r = true → ∃ t : Lb, t.length ≤ 8 ∧ fulAll r t = true := fun {r} h ok => (pos_sem (by have := h.1; omega)).mp (by rw [pos8 h.1]; exact ok)
  cases k1 : okB r1 with
  | false =>
    cases k2 : okB r2 with
    | false => exact ⟨fun _ => ⟨fun t _ f => (by rw [none_all k2] at f; cases f), fun t _ f => (by rw [none_all k1] at f; cases f)⟩, fun _ => by rw [norm_no k1, norm_no k2]⟩
    | true =>
      refine ⟨fun e => (by rw [norm_no k1, norm_ok k2] at e; cases e), fun ⟨a, _⟩ => ?_⟩
      obtain ⟨t, le, f⟩ := some_ h2 k2
      have := a t le f
      rw [none_all k1] at this
      cases this
  | true =>
    cases k2 : okB r2 with
    | false =>
      refine ⟨fun e => (by rw [norm_ok k1, norm_no k2] at e; cases e), fun ⟨_, a⟩ => ?_⟩
      obtain ⟨t, le, f⟩ := some_ h1 k1
      have := a t le f
      rw [none_all k2] at this
      cases this
    | true =>
      constructor
      · intro e
        rw [norm_ok k1, norm_ok k2] at e
        injection e with e
        have q := selT_inj (nrows8 (isB_of k1) h1) (nrows8 (isB_of k2) h2) e
        have s : ∀ t, fulAll r1 t = fulAll r2 t := fun t => by rw [← ok_ful k1, ← ok_ful k2, q]
        exact ⟨fun t _ f => by rw [s]; exact f, fun t _ f => by rw [← s]; exact f⟩
      · rintro ⟨a, b⟩
        have s : ∀ t : Lb, t.length ≤ 8 → fulAll r1 t = fulAll r2 t := fun t le => by
          cases q : fulAll r2 t with
          | true => exact a t le q
          | false =>
            cases q1 : fulAll r1 t with
            | false => rfl
            | true => rw [b t le q1] at q; cases q
        rw [norm_ok k1, norm_ok k2, bs_eq names_nd (side8 h1) (side8 h2) k1 k2 (bd_eq8 names_nd (side8 h1) (side8 h2) List.mem_cons_self k1 k2 s)]
/-- rows and their normal rows cover each other -/
theorem cov_norm {rs : List Row} (h : Rows8 rs) (ok : okB rs = true) : covB (nrows (bsOf rs)) rs = true ∧ covB rs (nrows (bsOf rs)) = true := by
  have a := h.1
  have b := (nrows8 (isB_of ok) h).1
  exact ⟨(cov_sem (by omega)).mpr fun t _ f => by rw [ok_ful ok]; exact f, (cov_sem (by omega)).mpr fun t _ f => by rw [← ok_ful ok]; exact f⟩
/-- one name more than eight -/
theorem pos_nine {rs : List Row} {r : Row} (h : (sortU (needNm rs)).length = 8) (n : needV r.vb = true) (out : r.nm ∉ rs.map (·.nm)) : posB (rs ++ [r]) = false := by
  have e : needNm (rs ++ [r]) = needNm rs ++ [r.nm] := by
    unfold needNm
    rw [List.filter_append, List.map_append]
    simp [n]
  have no : r.nm ∉ sortU (needNm rs) := fun z => by
    obtain ⟨q, hq, eq⟩ := List.mem_map.mp (sortU_mem.mp z)
    exact out (by rw [← eq]; exact List.mem_map_of_mem (List.mem_filter.mp hq).1)
  have nd : (r.nm :: sortU (needNm rs)).Nodup := List.nodup_cons.mpr ⟨no, sortU_once _⟩
  have le := within_len nd (ks := sortU (needNm (rs ++ [r]))) fun x hx => by
    rw [e, sortU_mem, List.mem_append, List.mem_singleton]
    rcases List.mem_cons.mp hx with hx | hx
    · exact .inr hx
    · exact .inl (sortU_mem.mp hx)
  rw [List.length_cons] at le
  unfold posB
  rw [decide_eq_false (by omega), Bool.and_false]
/-- what the law looks at for one name -/
def badB (own : List Row) : Bool := ((anyV .missing own && (anyV .there own || !(sortU (valsOf .is own)).isEmpty)) || decide (1 < (sortU (valsOf .is own)).length)) || (!(sortU (valsOf .is own)).isEmpty && decide ((sortU (valsOf .is own)).headD "" ∈ valsOf .not own))
theorem bad_bound (own : List Row) : (boundOf own).isSome = !badB own := by
  have e : decide ((sortU (valsOf .is own)).headD "" ∈ sortU (valsOf .not own)) = decide ((sortU (valsOf .is own)).headD "" ∈ valsOf .not own) := decide_eq_decide.mpr sortU_mem
  unfold boundOf badB
  rw [e]
  generalize decide ((sortU (valsOf .is own)).headD "" ∈ valsOf .not own) = d
  cases anyV .missing own <;> cases anyV .there own <;> cases d <;> rcases sortU (valsOf .is own) with _ | ⟨x, _ | ⟨y, l⟩⟩ <;> simp

/-! ### rows as data -/
def rowD (r : Row) : PyData := .tuple [.str r.nm, .str (vT r.vb), .str r.vl]
theorem row_ok : (allRows.all fun r => PyData.strOk r.nm && (PyData.strOk (vT r.vb) && PyData.strOk r.vl)) = true := by decide +kernel
theorem rows_lay : ∀ {rows : List Row}, (∀ r ∈ rows, r ∈ allRows) → PyData.canLayAll0 (rows.map rowD) = true ∧ PyData.depthAll (rows.map rowD) ≤ 1
  | [], _ => by simp [PyData.canLayAll0, PyData.depthAll]
  | r :: rs, h => by
    obtain ⟨i1, i2⟩ := rows_lay (rows := rs) fun z hz => h z (List.mem_cons_of_mem _ hz)
    have q := List.all_eq_true.mp row_ok r (h r (List.mem_cons_self ..))
    simp only [Bool.and_eq_true] at q
    obtain ⟨q1, q2, q3⟩ := q
    simp only [List.map_cons, rowD, PyData.canLayAll0, PyData.canLay0, PyData.depthAll, PyData.depth, q1, q2, q3]
    refine ⟨by simpa using i1, Nat.max_le.mpr ⟨by decide, i2⟩⟩
theorem rows_sh {rows : List Row} (h : ∀ r ∈ rows, r ∈ allRows) : SeqAt.shaped (.list (rows.map rowD)) = true := by
  obtain ⟨i1, i2⟩ := rows_lay h
  unfold SeqAt.shaped
  simp only [PyData.canLay0, PyData.depth, i1, Bool.true_and]
  exact decide_eq_true (by omega)
theorem row_sh {r : Row} (h : r ∈ allRows) : SeqAt.shaped (rowD r) = true := by
  have q := List.all_eq_true.mp row_ok r h
  simp only [Bool.and_eq_true] at q
  obtain ⟨q1, q2, q3⟩ := q
  unfold SeqAt.shaped
  simp [rowD, PyData.canLay0, PyData.canLayAll0, PyData.depth, PyData.depthAll, q1, q2, q3]
theorem row_dp {K : PySem.W.Frag} {H : Hp} {p : Addr} {r : Row} (h : RowAt H p r) : Dp K H (.ref p) (rowD r) := .tup (SqT.of h) (.cons (.str _) (.cons (.str _) (.cons (.str _) .nil)))
theorem rows_dp {K : PySem.W.Frag} {H : Hp} {L : Addr} {rows : List Row} (h : RowsAt H L rows) : Dp K H (.ref L) (.list (rows.map rowD)) := by
  obtain ⟨ps, gL, hp⟩ := h
  refine .lst (SqL.of gL) ?_
  clear gL
  induction hp with
  | nil => exact .nil
  | cons r t ih => exact .cons (row_dp r) ih
theorem row_eqv (r q : Row) : PyData.eqv (rowD r) (rowD q) = decide (r = q) := by
  obtain ⟨n, v, x⟩ := r
  obtain ⟨m, u, y⟩ := q
  rw [Bool.eq_iff_iff, decide_eq_true_iff]
  simp only [rowD, PyData.eqv, PyData.eqvAll, Row.mk.injEq]
  constructor
  · intro h
    simp at h
    exact ⟨h.1, vT_inj h.2.1, h.2.2⟩
  · rintro ⟨rfl, rfl, rfl⟩
    simp
theorem rows_any (rows : List Row) (q : Row) : ((rows.map rowD).any fun z => PyData.eqv z (rowD q)) = decide (q ∈ rows) := by
  rw [List.any_map, Bool.eq_iff_iff, decide_eq_true_iff, List.any_eq_true]
  constructor
  · rintro ⟨r, hr, e⟩
    have e : PyData.eqv (rowD r) (rowD q) = true := e
    rw [row_eqv] at e
    rw [← of_decide_eq_true e]; exact hr
  · intro h
    exact ⟨q, h, by show PyData.eqv (rowD q) (rowD q) = true; rw [row_eqv]; exact decide_eq_true rfl⟩
theorem opp_mem {r : Row} (h : r ∈ allRows) : oppR r ∈ allRows := by
  obtain ⟨n, hn, h⟩ := List.mem_flatMap.mp h
  rcases List.mem_append.mp h with h | h
  · obtain ⟨v, hv, h⟩ := List.mem_flatMap.mp h
    simp only [List.mem_cons, List.not_mem_nil, or_false] at h
    rcases h with rfl | rfl
    · exact (row_mem hn hv).2.1
    · exact (row_mem hn hv).1
  · simp only [List.mem_cons, List.not_mem_nil, or_false] at h
    rcases h with rfl | rfl
    · exact (row_mem hn (v := "") (by simp [vals8])).2.2.2
    · exact (row_mem hn (v := "") (by simp [vals8])).2.2.1
theorem rowN_of {r : Row} (h : r ∈ allRows) : RowN r := have f := row_f h; ⟨f.un, f.lb, f.ln, f.lv⟩

theorem units65 {k : Nat} {A : Around} (r : Room k A) : A.units + 65 < cLine := by have := r.un; omega
theorem rows_sq {K : PySem.W.Frag} {H : Hp} {L : Addr} {rs : List Row} (h : RowsAt H L rs) : ∃ xs, SqL K H L xs := have ⟨_, g, _⟩ := h; ⟨_, SqL.of g⟩
theorem keep_all {α : Type} (l : List α) : l.filter (fun _ => true) = l := List.filter_eq_self.mpr fun _ _ => rfl
def sp__law_needed (K : PySem.W.Frag) : Sp := fun vs H Q _ => ∃ (L : Addr) (rs : List Row), vs = [.ref L] ∧ RowsAt H L rs ∧ rs.length ≤ 40 ∧ ∀ p H', Same H H' → H' p = some (.lst ((sortU (needNm rs)).map V.str)) → Q (.ref p) H'
theorem ok__law_needed {P : Program} {w : World} {K : PySem.W.Frag} {mg : Str → Option Value} {base : Heap} {fd : FuncData} (T : Txt K mg w) (F : FnP K "_law_needed" s__law_needed [] fd) : FnOk P w K mg base CX0 1 (He.ga K "_law_needed") fd ps__law_needed (sp__law_needed K) := by
  refine F.ok sc__law_needed (fun vs H Q E h => ?len) (fun cdv A outer s H vs Q E hr h => ?body)
  case len => obtain ⟨L, rs, rfl, hR, hlen, k⟩ := h; rfl
  case body =>
  obtain ⟨L, rs, rfl, hR, hlen, k⟩ := h
  have hu := hu_of hr
  refine ⟨_, PSs.nox (pss_one (ps_ret (pe_callB (cr_sortTx rfl) (by rfl) T.n_sorted (by decide +kernel) (pa_cons (pe_callTy (cr_setTx rfl) (by rfl) T.n_set (by decide +kernel) (pa_cons (pe_lc (own := [("_law_row", 1)]) rfl sc__law_needed.nd (pi_list (pv 0)) (blkOk_by (own := [("_law_row", 1)]) (N := N__law_needed) (sc := defScope s__law_needed) (by decide +kernel)) (fun _ _ _ _ _ => (pg_name (i := 1) sc__law_needed.nd rfl (Or.inl rfl))) (fun _ _ _ _ _ => (pts_one (pt_cmpR (show OpR _ (compareOp .In) (rIn K false) from op_in_seq) (pe_ix (show IxR _ (rIxT K) from ix_tup) (pv 1) pe_int (fun _ _ => rfl)) (pe_tup (pa_cons pe_str (pa_cons pe_str pa_nil))) (by rfl)))) (fun _ _ _ _ _ => (pe_ix (show IxR _ (rIxT K) from ix_tup) (pv 1) pe_int (fun _ _ => rfl)))) pa_nil)) pa_nil)))), ?_⟩
  refine ⟨_, rfl, L, rfl, rows_sq hR, fun D hD => ?_⟩
  refine lc_strs (fun r => needV r.vb) (·.nm) hR (by omega) hD ?_ ?_
  · intro p r _ hr0 H' Y N S' kk
    refine ⟨rfl, _, rfl, p, _, 1, .str (vT r.vb), rfl, rfl, SqT.of (S' _ _ hr0), rfl, smallN (by show 2 ≤ 1000; decide), fun pt qt => ⟨pt, _, rfl, .inr (SqT.of upd_same), rfl, rfl, _, rfl, ?_⟩⟩
    refine iteE (in_need r.vb) (fun e => ?_) (fun e => (kk _ (Same.new qt)).2 e)
    exact ⟨_, rfl, p, _, 0, .str r.nm, rfl, rfl, SqT.of ((S'.trans (Same.new qt)) _ _ hr0), rfl, (kk _ (Same.new qt)).1 e⟩
  · intro H1 S1 gD
    refine set_sort gD ?_ fun p H2 S2 _ g => k p H2 (S1.trans S2) g
    have := List.length_filter_le (fun r : Row => needV r.vb) rs
    rw [List.length_map]
    omega
section
variable {K : PySem.W.Frag} {C : TS} {E : Ends} {H : Hp} {pO pA pW : Addr} {own : List Row} {asked : List Str} {n : Str} {x0 x5 : Option V}
theorem poss_one (gW : H pW = some (.lst (own.map fun r => V.str (vT r.vb)))) (gA : H pA = some (.lst (asked.map V.str)))
    (bad : (anyV .missing own && (anyV .there own || !asked.isEmpty) || decide (1 < asked.length)) = true → ∀ H', Same H H' → E.rt (.bl false) H')
    (good : (anyV .missing own && (anyV .there own || !asked.isEmpty) || decide (1 < asked.length)) = false → ∀ H', Same H H' → C E [x0, some (.str n), some (.ref pO), some (.ref pA), some (.ref pW), x5] H') :
    tSeq (tIfS (tOr (tAnd (tTest (tOp (rIn K false) (tC (.str "missing")) (tVar 4))) (tOr (tTest (tOp (rIn K false) (tC (.str "there")) (tVar 4))) (tTest (tOp (rNeNil K) (tVar 3) (tLst tNil)))))
      (tTest (tOp (rI0 fun i j => V.bl (decide (j < i))) (tCB (fun xs H_1 Q => ∃ p ys, xs = [V.ref p] ∧ (SqL K H_1 p ys ∨ SqT K H_1 p ys) ∧ Q (V.int ↑ys.length) H_1) (tCons (tVar 3) tNil)) (tC (V.int 1))))) (tRet (tC (.bl false))) tNext) C E
      [x0, some (.str n), some (.ref pO), some (.ref pA), some (.ref pW), x5] H := by
  have last : ∀ H1, Same H H1 → (anyV .missing own && (anyV .there own || !asked.isEmpty)) = false → tTest (tOp (rI0 fun i j => V.bl (decide (j < i))) (tCB (fun xs H_1 Q => ∃ p ys, xs = [V.ref p] ∧ (SqL K H_1 p ys ∨ SqT K H_1 p ys) ∧ Q (V.int ↑ys.length) H_1) (tCons (tVar 3) tNil)) (tC (V.int 1)))
      [x0, some (.str n), some (.ref pO), some (.ref pA), some (.ref pW), x5] H1 fun b H' => if b = true then tRet (tC (.bl false)) { E with nx := C E } [x0, some (.str n), some (.ref pO), some (.ref pA), some (.ref pW), x5] H' else tNext { E with nx := C E } [x0, some (.str n), some (.ref pO), some (.ref pA), some (.ref pW), x5] H' := fun H1 S1 h0 => by
    refine ⟨_, rfl, pA, _, rfl, .inl (SqL.of (S1 _ _ gA)), _, _, rfl, rfl, _, rfl, ?_⟩
    refine iteE (b := decide (1 < asked.length)) (decide_eq_decide.mpr (by rw [List.length_map]; omega)) (fun h1 => bad (by rw [h0, h1]; rfl) H1 S1) (fun h1 => good (by rw [h0, h1]; rfl) H1 S1)
  refine ⟨_, rfl, pW, _, rfl, .inl (SqL.of gW), rfl, flat_strs _ _, _, rfl, ?_⟩
  refine iteE (in_words .missing own) (fun hm => ?_) (fun hm => ?_)
  · refine ⟨_, rfl, pW, _, rfl, .inl (SqL.of gW), rfl, flat_strs _ _, _, rfl, ?_⟩
    refine iteE (in_words .there own) (fun ht => iteT (bad (by rw [hm, ht]; rfl) H (Same.refl H))) (fun ht => ?_)
    refine ⟨_, rfl, smallN (by show 0 ≤ 1000; decide), fun pe qe => ⟨pA, pe, _, rfl, rfl, SqL.of (Same.new qe _ _ gA), SqL.of upd_same, _, rfl, ?_⟩⟩
    rw [List.isEmpty_map]
    cases ea : asked.isEmpty with
    | false => exact iteT (bad (by rw [hm, ht, ea]; rfl) _ (Same.new qe))
    | true => exact iteF (last _ (Same.new qe) (by rw [hm, ht, ea]; rfl))
  · exact last H (Same.refl H) (by rw [hm]; rfl)
theorem poss_two (hO : RowsAt H pO own) (gA : H pA = some (.lst (asked.map V.str))) (all : ∀ r ∈ own, r ∈ allRows ∧ r.nm = n) (mine : ∀ x ∈ asked, (⟨n, .not, x⟩ : Row) ∈ allRows)
    (bad : (!asked.isEmpty && decide (asked.headD "" ∈ valsOf .not own)) = true → ∀ H', Same H H' → E.rt (.bl false) H')
    (good : (!asked.isEmpty && decide (asked.headD "" ∈ valsOf .not own)) = false → ∀ H', Same H H' → E.nx [x0, some (.str n), some (.ref pO), some (.ref pA), some (.ref pW), x5] H') :
    tIfS (tAnd (tTest (tOp (rNeNil K) (tVar 3) (tLst tNil))) (tTest (tOp (rInD K) (tTup (tCons (tVar 1) (tCons (tC (.str "not")) (tCons (tOp (rIxL K) (tVar 3) (tC (V.int 0))) tNil)))) (tVar 2)))) (tRet (tC (V.bl false))) tNext E
      [x0, some (.str n), some (.ref pO), some (.ref pA), some (.ref pW), x5] H := by
  refine ⟨_, rfl, smallN (by show 0 ≤ 1000; decide), fun pe qe => ⟨pA, pe, _, rfl, rfl, SqL.of (Same.new qe _ _ gA), SqL.of upd_same, _, rfl, ?_⟩⟩
  rw [List.isEmpty_map]
  have S1 := Same.new (u := .lst []) qe
  generalize upd H pe (.lst []) = H1 at S1 ⊢
  cases ea : asked with
  | nil => exact iteF (good (by rw [ea]; rfl) H1 S1)
  | cons x xs =>
    have gA1 : H1 pA = some (.lst (.str x :: xs.map V.str)) := by rw [S1 _ _ gA, ea]; rfl
    refine iteT ?_
    refine ⟨_, rfl, _, rfl, pA, _, 0, .str x, rfl, rfl, SqL.of gA1, atI_nat (j := 0) rfl, smallN (by show 3 ≤ 1000; decide), fun pt qt => ?_⟩
    have S2 := S1.trans (Same.new (u := .tup [.str n, .str "not", .str x]) qt)
    have gt : RowAt (upd H1 pt (.tup [.str n, .str "not", .str x])) pt ⟨n, .not, x⟩ := upd_same
    generalize upd H1 pt (.tup [.str n, .str "not", .str x]) = H2 at S2 gt ⊢
    refine ⟨_, rfl, rowD ⟨n, .not, x⟩, own.map rowD, row_dp gt, rows_dp (rows_same S2 hO), row_sh (mine x (by rw [ea]; exact List.mem_cons_self)), rows_sh fun r hr => (all r hr).1, _, rfl, ?_⟩
    have e : decide ((⟨n, .not, x⟩ : Row) ∈ own) = decide (x ∈ valsOf .not own) := decide_eq_decide.mpr ⟨fun h => valsOf_mem.mpr ⟨_, h, rfl, rfl⟩, fun h => by
      obtain ⟨r, hr, h2, h3⟩ := valsOf_mem.mp h
      obtain ⟨_, h1⟩ := all r hr
      obtain ⟨m, v, y⟩ := r
      subst h1; subst h2; subst h3
      exact hr⟩
    rw [rows_any, e]
    refine iteE rfl (fun h => bad ?_ H2 S2) (fun h => good ?_ H2 S2)
    · rw [ea]; exact h
    · rw [ea]; exact h
end
section
variable {P : Program} {w : World} {K : PySem.W.Frag} {H : Hp} {L : Addr} {rs : List Row} {Q : VK} {x0 x1 x2 x3 x4 x5 : Option V}
theorem poss_names (hR : RowsAt H L rs) (few : rs.length ≤ 40) (k : ∀ p H', Same H H' → H p = none → H' p = some (.lst ((sortU (rs.map (·.nm))).map V.str)) → Q (.ref p) H') :
    tCB (rSortTx P w) (tCons (tCB (rSetTx K P w) (tCons (tLc (iList K (tVar 0)) (gName 5) tYes (tOp (rIxT K) (tVar 5) (tC (.int 0))) [5]) tNil)) tNil) [some (.ref L), x1, x2, x3, x4, x5] H Q := by
  refine ⟨_, rfl, L, rfl, rows_sq hR, fun D hD => ?_⟩
  refine lc_strs (fun _ => true) (·.nm) hR (by omega) hD ?_ ?_
  · intro p r _ hr H' Y N S' kk
    exact ⟨rfl, yes_ (iteT ⟨_, rfl, p, _, 0, .str r.nm, rfl, rfl, SqT.of (S' _ _ hr), rfl, (kk _ (Same.refl _)).1 rfl⟩)⟩
  · intro H1 S1 g1
    rw [keep_all] at g1
    exact set_sort (K := K) g1 (by rw [List.length_map]; omega) fun p H2 S2 f2 g2 => k p H2 (S1.trans S2) (S1.free f2) g2
theorem poss_vals (hR : RowsAt H L rs) (few : rs.length ≤ 40) (k : ∀ p H', Same H H' → H p = none → H' p = some (.lst ((sortU (valsOf .is rs)).map V.str)) → Q (.ref p) H') :
    tCB (rSortTx P w) (tCons (tCB (rSetTx K P w) (tCons (tLc (iList K (tVar 2)) (gName 5) (tTest (tOp rEq (tOp (rIxT K) (tVar 5) (tC (.int 1))) (tC (.str "is")))) (tOp (rIxT K) (tVar 5) (tC (.int 2))) [5]) tNil)) tNil) [x0, x1, some (.ref L), x3, x4, x5] H Q := by
  refine ⟨_, rfl, L, rfl, rows_sq hR, fun D hD => ?_⟩
  refine lc_strs (fun r => decide (r.vb = .is)) (·.vl) hR (by omega) hD ?_ ?_
  · intro p r _ hr0 H' Y N S' kk
    refine ⟨rfl, _, rfl, p, _, 1, .str (vT r.vb), rfl, rfl, SqT.of (S' _ _ hr0), rfl, rfl, _, rfl, ?_⟩
    refine iteE (b := decide (r.vb = .is)) (decide_eq_decide.mpr ⟨fun z => vT_inj (b := .is) (by injection z), fun z => by rw [z]; rfl⟩) (fun e => ?_) (fun e => (kk _ (Same.refl _)).2 e)
    exact ⟨_, rfl, p, _, 2, .str r.vl, rfl, rfl, SqT.of (S' _ _ hr0), rfl, (kk _ (Same.refl _)).1 e⟩
  · intro H1 S1 g1
    have g1 : H1 D = some (.lst ((valsOf .is rs).map V.str)) := g1
    have lv := valsOf_len .is rs
    exact set_sort (K := K) g1 (by omega) fun p H2 S2 f2 g2 => k p H2 (S1.trans S2) (S1.free f2) g2
end
def sp__law_is_possible (K : PySem.W.Frag) : Sp := fun vs H Q _ => ∃ (L : Addr) (rs : List Row), vs = [.ref L] ∧ RowsAt H L rs ∧ rs.length ≤ 40 ∧ (∀ r ∈ rs, r ∈ allRows) ∧ ∀ H', Same H H' → Q (.bl (posB rs)) H'
theorem ok__law_is_possible {P : Program} {w : World} {K : PySem.W.Frag} {mg : Str → Option Value} {base : Heap} {fd : FuncData} (T : Txt K mg w) (F : FnP K "_law_is_possible" s__law_is_possible [] fd) : FnOk P w K mg base CX0 2 (He.ga K "_law_is_possible") fd ps__law_is_possible (sp__law_is_possible K) := by
  obtain ⟨fd__law_needed, F__law_needed⟩ := T.d__law_needed
  have G__law_needed := ok__law_needed (P := P) (w := w) (base := base) T F__law_needed
  have k__law_needed := F__law_needed.kp
  have b__law_needed := bi__law_needed F__law_needed
  refine F.ok sc__law_is_possible (fun vs H Q E h => ?len) (fun cdv A outer s H vs Q E hr h => ?body)
  case len => obtain ⟨L, rs, rfl, hR, hlen, hN, k⟩ := h; rfl
  case body =>
  obtain ⟨L, rs, rfl, hR, hlen, hN, k⟩ := h
  have hu := hu_of hr
  refine ⟨_, PSs.nox (pss_cons (ps_for PassesOwn.never rfl (pi_list (pe_callB (cr_sortTx rfl) (by rfl) T.n_sorted (by decide +kernel) (pa_cons (pe_callTy (cr_setTx rfl) (by rfl) T.n_set (by decide +kernel) (pa_cons (pe_lc (own := [("_law_row", 5)]) rfl sc__law_is_possible.nd (pi_list (pv 0)) (blkOk_by (own := [("_law_row", 5)]) (N := N__law_is_possible) (sc := defScope s__law_is_possible) (by decide +kernel)) (fun _ _ _ _ _ => (pg_name (i := 5) sc__law_is_possible.nd rfl (Or.inl rfl))) (fun _ _ _ _ _ => pts_nil) (fun _ _ _ _ _ => (pe_ix (show IxR _ (rIxT K) from ix_tup) (pv 5) pe_int (fun _ _ => rfl)))) pa_nil)) pa_nil))) (pg_name (i := 1) sc__law_is_possible.nd rfl (Or.inr rfl))
      (pss_cons (ps_setLc (i := 2) (own := [("_law_row", 5)]) rfl sc__law_is_possible.nd rfl rfl (sw_true rfl rfl rfl (by decide +kernel)) (pi_list (pv 0)) (blkOk_by (own := [("_law_row", 5)]) (N := N__law_is_possible) (sc := defScope s__law_is_possible) (by decide +kernel)) (fun _ _ _ _ _ => (pg_name (i := 5) sc__law_is_possible.nd rfl (Or.inl rfl))) (fun _ _ _ _ _ => (pts_one (pt_cmpR op_eq (pe_ix (show IxR _ (rIxT K) from ix_tup) (pv 5) pe_int (fun _ _ => rfl)) (pv 1) (nomark _)))) (fun _ _ _ _ _ => (pv 5)))
        (pss_cons (ps_set (i := 3) sc__law_is_possible.nd rfl (Or.inl rfl) (pe_callB (cr_sortTx rfl) (by rfl) T.n_sorted (by decide +kernel) (pa_cons (pe_callTy (cr_setTx rfl) (by rfl) T.n_set (by decide +kernel) (pa_cons (pe_lc (own := [("_law_row", 5)]) rfl sc__law_is_possible.nd (pi_list (pv 2)) (blkOk_by (own := [("_law_row", 5)]) (N := N__law_is_possible) (sc := defScope s__law_is_possible) (by decide +kernel)) (fun _ _ _ _ _ => (pg_name (i := 5) sc__law_is_possible.nd rfl (Or.inl rfl))) (fun _ _ _ _ _ => (pts_one (pt_cmpR op_eq (pe_ix (show IxR _ (rIxT K) from ix_tup) (pv 5) pe_int (fun _ _ => rfl)) pe_str (nomark _)))) (fun _ _ _ _ _ => (pe_ix (show IxR _ (rIxT K) from ix_tup) (pv 5) pe_int (fun _ _ => rfl)))) pa_nil)) pa_nil)))
        (pss_cons (ps_setLc (i := 4) (own := [("_law_row", 5)]) rfl sc__law_is_possible.nd rfl rfl (sw_true rfl rfl rfl (by decide +kernel)) (pi_list (pv 2)) (blkOk_by (own := [("_law_row", 5)]) (N := N__law_is_possible) (sc := defScope s__law_is_possible) (by decide +kernel)) (fun _ _ _ _ _ => (pg_name (i := 5) sc__law_is_possible.nd rfl (Or.inl rfl))) (fun _ _ _ _ _ => pts_nil) (fun _ _ _ _ _ => (pe_ix (show IxR _ (rIxT K) from ix_tup) (pv 5) pe_int (fun _ _ => rfl))))
        (pss_cons (ps_if (PW.pt (pw_or (PW.pt (pw_and (pt_cmpR op_in_seq pe_str (pv 4) (by rfl)) (pw_and1 (PW.pt (pw_or (pt_cmpR op_in_seq pe_str (pv 4) (by rfl)) (pw_or1 (pt_cmpR (op_neNil hr.units) (pv 3) (pe_lst pa_nil) (nomark _)))))))) (pw_or1 (pt_cmpR op_gt (pe_callB call_len_seq (by rfl) T.n_len (by decide +kernel) (pa_cons (pv 3) pa_nil)) pe_int (nomark _))))) (pss_one (ps_ret pe_bl)) pss_nil)
        (pss_one (ps_if (PW.pt (pw_and (pt_cmpR (op_neNil hr.units) (pv 3) (pe_lst pa_nil) (nomark _)) (pw_and1 (pt_cmpR (op_inD (units65 hr)) (pe_tup (pa_cons (pv 1) (pa_cons pe_str (pa_cons (pe_ix ix_list (pv 3) pe_int (fun _ _ => rfl)) pa_nil)))) (pv 2) (by rfl))))) (pss_one (ps_ret pe_bl)) pss_nil)))))))
    (pss_one (ps_ret (pe_cmpR op_le (pe_callB call_len_seq (by rfl) T.n_len (by decide +kernel) (pa_cons (pe_call G__law_needed (hr.mono (by first | decide | omega)) rfl T.g__law_needed k__law_needed b__law_needed .nil pass0 (pa_cons (pv 0) pa_nil)) pa_nil)) pe_int (nomark _))))), ?_⟩
  refine poss_names hR hlen fun pN H2 S02 _ gN => ?_
  refine ⟨pN, rfl, ⟨_, SqL.of gN⟩, for_list (K := K) (a := pN) (xs := (sortU (rs.map (·.nm))).map V.str) (fun i σ H' => ∃ (v1 v2 v3 v4 v5 : Option V), σ = [some (.ref L), v1, v2, v3, v4, v5] ∧ Same H2 H' ∧ ∀ n ∈ (sortU (rs.map (·.nm))).take i, badB (ownR rs n) = false)
    ⟨_, _, _, _, _, rfl, Same.refl _, fun n hn => nomatch hn⟩ (fun i σ H' _ ⟨_, _, _, _, _, _, S, _⟩ => SqL.of (S _ _ gN)) ?_ ?_⟩
  · rintro i x σ H3 hx ⟨v1, v2, v3, v4, v5, rfl, S3, all3⟩
    rw [List.getElem?_map] at hx
    obtain ⟨n, en, rfl⟩ := Option.map_eq_some_iff.mp hx
    have R3 := rows_same (S02.trans S3) hR
    refine ⟨_, rfl, L, rfl, rows_sq R3, fun D hD => ?_⟩
    refine lc_rows (fun r => decide (r.nm = n)) R3 (by omega) hD ?_ ?_
    · intro p r _ hr0 H' Y N S' kk
      refine ⟨rfl, _, rfl, p, _, 0, .str r.nm, rfl, rfl, SqT.of (S' _ _ hr0), rfl, _, rfl, rfl, _, rfl, ?_⟩
      refine iteE (b := decide (r.nm = n)) (decide_eq_decide.mpr ⟨fun z => by injection z, fun z => by rw [z]⟩) (fun e => ?_) (fun e => (kk _ (Same.refl _)).2 e)
      exact ⟨_, rfl, (kk _ (Same.refl _)).1 e⟩
    intro H4 S4 RO
    have RO : RowsAt H4 D (ownR rs n) := RO
    have lo := ownR_len rs n
    have hown : ∀ r ∈ ownR rs n, r ∈ allRows ∧ r.nm = n := fun r hr0 => ⟨hN r (List.mem_filter.mp hr0).1, of_decide_eq_true (List.mem_filter.mp hr0).2⟩
    refine poss_vals RO (by omega) fun pA H6 S46 _ gA => ?_
    refine ⟨_, rfl, D, rfl, rows_sq (rows_same S46 RO), fun D2 hD2 => ?_⟩
    refine lc_strs (fun _ => true) (fun r => vT r.vb) (rows_same S46 RO) (by omega) hD2 ?_ ?_
    · intro p r _ hr0 H' Y N S' kk
      exact ⟨rfl, yes_ (iteT ⟨_, rfl, p, _, 1, .str (vT r.vb), rfl, rfl, SqT.of (S' _ _ hr0), rfl, (kk _ (Same.refl _)).1 rfl⟩)⟩
    intro H7 S7 gD2
    rw [keep_all, List.map_map] at gD2
    have S47 := S46.trans S7
    have S07 := S02.trans (S3.trans (S4.trans S47))
    have nin := sortU_mem.mp (mem_at en)
    have stop : badB (ownR rs n) = true → ∀ H', Same H7 H' → Q (.bl false) H' := fun b H' S' => by
      have := k H' (S07.trans S')
      have e : posB rs = false := by
        unfold posB
        have : okB rs = false := List.all_eq_false.mpr ⟨n, nin, by rw [bad_bound, b]; decide⟩
        rw [this]; rfl
      rw [e] at this
      exact this
    refine poss_one (own := ownR rs n) (asked := sortU (valsOf .is (ownR rs n))) gD2 (S7 _ _ gA) (fun b H8 S8 => stop (by unfold badB; rw [b]; rfl) H8 S8) (fun g1 H8 S8 => ?_)
    refine poss_two (own := ownR rs n) (asked := sortU (valsOf .is (ownR rs n))) (rows_same (S47.trans S8) RO) (S8 _ _ (S7 _ _ gA)) hown (fun x hx => ?_) (fun b H9 S9 => stop (by unfold badB; rw [g1, b]; rfl) H9 (S8.trans S9)) (fun g2 H9 S9 => ?_)
    · obtain ⟨r, hr0, h2, h3⟩ := valsOf_mem.mp (sortU_mem.mp hx)
      have := opp_mem (hown r hr0).1
      obtain ⟨_, e⟩ := hown r hr0
      unfold oppR at this
      rw [e, h2, h3] at this
      exact this
    · refine ⟨_, _, _, _, _, rfl, S3.trans (S4.trans (S47.trans (S8.trans S9))), fun m hm => ?_⟩
      rw [get_take en] at hm
      rcases List.mem_append.mp hm with hm | hm
      · exact all3 m hm
      · rw [List.mem_singleton.mp hm]; unfold badB; rw [g1, g2]; rfl
  · rintro σ H3 ⟨v1, v2, v3, v4, v5, rfl, S3, all3⟩
    rw [List.length_map, List.take_length] at all3
    have ok : okB rs = true := List.all_eq_true.mpr fun n hn => by rw [bad_bound, all3 n (sortU_mem.mpr hn)]; rfl
    refine ⟨_, rfl, L, rs, rfl, rows_same (S02.trans S3) hR, hlen, fun p H4 S4 g4 => ⟨p, _, rfl, .inl (SqL.of g4), _, _, rfl, rfl, ?_⟩⟩
    have := k H4 (S02.trans (S3.trans S4))
    have e : posB rs = decide ((((sortU (needNm rs)).map V.str).length : Int) ≤ 8) := by
      unfold posB
      rw [ok, Bool.true_and, List.length_map]
      exact decide_eq_decide.mpr (by omega)
    rw [e] at this
    exact this

/-! ### parts of lists -/
theorem paired_take {α β : Type} {F : α → β → Prop} : ∀ (n : Nat) {xs : List α} {ys : List β}, Paired F xs ys → Paired F (xs.take n) (ys.take n)
  | 0, _, _, _ => by rw [List.take_zero, List.take_zero]; exact .nil
  | _ + 1, _, _, .nil => .nil
  | n + 1, _, _, .cons r t => .cons r (paired_take n t)
theorem paired_drop {α β : Type} {F : α → β → Prop} : ∀ (n : Nat) {xs : List α} {ys : List β}, Paired F xs ys → Paired F (xs.drop n) (ys.drop n)
  | 0, _, _, h => h
  | _ + 1, _, _, .nil => .nil
  | n + 1, _, _, .cons _ t => paired_drop n t
theorem cut_take (xs : List V) (n : Nat) : cutV xs none (some (n : Int)) = xs.take n := by
  unfold cutV
  rw [HT.sIx_nat, HT.sIx_none, List.drop_zero, Nat.sub_zero]
  by_cases h : n ≤ xs.length
  · rw [Nat.min_eq_left h]
  · rw [Nat.min_eq_right (by omega), List.take_length, List.take_of_length_le (by omega)]
theorem cut_drop (xs : List V) (n : Nat) : cutV xs (some (n : Int)) none = xs.drop n := by
  unfold cutV
  rw [HT.sIx_nat, HT.sIx_none]
  by_cases h : n ≤ xs.length
  · rw [Nat.min_eq_left h]
    exact List.take_of_length_le (by rw [List.length_drop]; omega)
  · rw [Nat.min_eq_right (by omega), List.drop_length, List.take_nil, List.drop_eq_nil_of_le (by omega)]
theorem cut_takeI (xs : List V) {i : Int} (h : 0 ≤ i) : cutV xs none (some i) = xs.take i.toNat := by
  obtain ⟨n, rfl⟩ := Int.eq_ofNat_of_zero_le h
  exact cut_take xs n
theorem cut_dropI (xs : List V) {i : Int} (h : 0 ≤ i) : cutV xs (some i) none = xs.drop i.toNat := by
  obtain ⟨n, rfl⟩ := Int.eq_ofNat_of_zero_le h
  exact cut_drop xs n
theorem cut_mem {xs : List V} {lo hi : Option Int} {y : V} (h : y ∈ cutV xs lo hi) : y ∈ xs := List.mem_of_mem_drop (List.mem_of_mem_take h)
theorem cut_int {ns : List Int} {lo hi : Option Int} {x : V} (h : x ∈ cutV (ns.map V.int) lo hi) : ∃ i, x = .int i := by
  obtain ⟨i, _, rfl⟩ := List.mem_map.mp (cut_mem h)
  exact ⟨i, rfl⟩
theorem rows_keep {a : Addr} {n : Nat} {H H' : Hp} {L : Addr} {rows : List Row} (w : WellAt H a n) (x : Keep a H H') (nL : L ≠ a) (h : RowsAt H L rows) : RowsAt H' L rows := by
  obtain ⟨ps, h1, h2⟩ := h
  exact ⟨ps, x _ _ nL h1, Paired.mono (fun p r q => x _ _ (well_ne w q fun _ z => by cases z) q) h2⟩
theorem len_empty {α β : Type} {xs : List α} {ys : List β} (h : xs.length = ys.length) : xs.isEmpty = ys.isEmpty := by
  cases xs <;> cases ys <;> simp_all
theorem rows_push {H : Hp} {F p : Addr} {rs : List Row} {r : Row} {xs : List V} (h : RowsAt H F rs) (gF : H F = some (.lst xs)) (hr : RowAt H p r) : RowsAt (upd H F (.lst (xs ++ [.ref p]))) F (rs ++ [r]) := by
  obtain ⟨ps, g, hp⟩ := h
  obtain rfl : xs = ps.map V.ref := by rw [gF] at g; injection g with g; injection g
  have up : ∀ (a : Addr) (q : Row), RowAt H a q → RowAt (upd H F (.lst (ps.map V.ref ++ [.ref p]))) a q := fun a q hq => by
    unfold RowAt at hq ⊢
    rw [upd_ne (ne_of hq gF fun z => by cases z)]; exact hq
  exact ⟨ps ++ [p], by rw [upd_same, List.map_append]; rfl, paired_snoc (up _ _ hr) (Paired.mono (fun a q hq => up a q hq) hp)⟩
theorem paired_rev {α β : Type} {F : α → β → Prop} {xs : List α} {ys : List β} (h : Paired F xs ys) : Paired F xs.reverse ys.reverse := by
  induction h with
  | nil => exact .nil
  | cons r _ more => rw [List.reverse_cons, List.reverse_cons]; exact paired_snoc r more
theorem paired_zip {α β : Type} {F : α → β → Prop} {xs : List α} {ys : List β} (h : Paired F xs ys) : ∃ as : List (α × β), as.map (·.1) = xs ∧ as.map (·.2) = ys ∧ ∀ a ∈ as, F a.1 a.2 := by
  induction h with
  | nil => exact ⟨[], rfl, rfl, fun a ha => nomatch ha⟩
  | @cons x y _ _ one _ more =>
    obtain ⟨as, e1, e2, e3⟩ := more
    refine ⟨(x, y) :: as, by rw [List.map_cons, e1], by rw [List.map_cons, e2], fun a ha => ?_⟩
    rcases List.mem_cons.mp ha with e | ha
    · rw [e]; exact one
    · exact e3 a ha

theorem pos_app {rs : List Row} (h : ∀ r ∈ rs, r ∈ allRows) {r : Row} (hr : r ∈ allRows) : ∀ q ∈ rs ++ [oppR r], q ∈ allRows := fun q hq => by
  rcases List.mem_append.mp hq with hq | hq
  · exact h q hq
  · rw [List.mem_singleton.mp hq]; exact opp_mem hr
def opps : List (Key × V) := [(Sum.inr "is", .str "not"), (Sum.inr "not", .str "is"), (Sum.inr "there", .str "missing"), (Sum.inr "missing", .str "there")]
theorem opps_at (vb : Verb) : valV (mergeK [] opps) (Sum.inr (vT vb)) = some (.str (vT (oppV vb))) := by cases vb <;> decide +kernel
/-- `_law_is_possible(other + [the opposite of a row])` -/
theorem cov_test {K : PySem.W.Frag} {b d v : Nat} {σ : L2.St} {H : Hp} {L2 pd p : Addr} {r2 : List Row} {r : Row} {Y : Bool → Hp → Prop} (eb : σ[b]? = some (some (.ref L2))) (ed : σ[d]? = some (some (.ref pd))) (ev : σ[v]? = some (some (.ref p)))
    (hR : RowsAt H L2 r2) (few : r2.length ≤ 20) (all : ∀ r ∈ r2, r ∈ allRows) (gd : H pd = some (.dK (mergeK [] opps))) (hp : RowAt H p r) (hr : r ∈ allRows) (k : ∀ H', Same H H' → Y (posB (r2 ++ [oppR r])) H') :
    tB (tCall (sp__law_is_possible K) [] E0 (tCons (tOp rCat (tVar b) (tLst (tCons (tTup (tCons (tOp (rIxT K) (tVar v) (tC (.int 0))) (tCons (tDGet (tVar d) (tOp (rIxT K) (tVar v) (tC (.int 1)))) (tCons (tOp (rIxT K) (tVar v) (tC (.int 2))) tNil)))) tNil))) tNil)) σ H Y := by
  obtain ⟨p2, g2, q2⟩ := hR
  have l2 := paired_len q2
  have hg : DGet H pd (.str (vT r.vb)) (some (.str (vT (oppV r.vb)))) := by
    have := DGet.k (k := Sum.inr (vT r.vb)) gd
    rw [opps_at] at this
    exact this
  refine ⟨_, eb, _, ev, p, _, 0, .str r.nm, rfl, rfl, SqT.of hp, rfl, _, ed, _, ev, p, _, 1, .str (vT r.vb), rfl, rfl, SqT.of hp, rfl, pd, _, rfl, hg, _, ev, p, _, 2, .str r.vl, rfl, rfl, SqT.of hp, rfl, smallN (by show 3 ≤ 1000; decide), fun pt qt => ⟨smallN (by show 1 ≤ 1000; decide), fun pl ql => ?_⟩⟩
  have St := Same.new (u := .tup [.str r.nm, .str (vT (oppV r.vb)), .str r.vl]) qt
  have gt : RowAt (upd H pt (.tup [.str r.nm, .str (vT (oppV r.vb)), .str r.vl])) pt (oppR r) := upd_same
  generalize upd H pt (.tup [.str r.nm, .str (vT (oppV r.vb)), .str r.vl]) = H4 at St gt ql ⊢
  have Sl := Same.new (u := .lst [.ref pt]) ql
  have gl : (upd H4 pl (.lst [.ref pt])) pl = some (.lst ([pt].map V.ref)) := upd_same
  generalize upd H4 pl (.lst [.ref pt]) = H5 at Sl gl ⊢
  have S35 := St.trans Sl
  refine ⟨L2, pl, _, _, rfl, rfl, S35 _ _ g2, gl, smallN (by rw [List.length_map, l2]; show _ + 1 ≤ 1000; omega), fun pc qc => ?_⟩
  have hq : Paired (RowAt H5) [pt] [oppR r] := .cons (Sl _ _ gt) .nil
  have R := rows_cat (L1 := L2) (L2 := pl) (Paired.mono (fun (a : Addr) (c : Row) (q : RowAt H a c) => (S35 _ _ q : RowAt H5 a c)) q2) hq qc
  have Sc := Same.new (u := .lst (p2.map V.ref ++ [pt].map V.ref)) qc
  exact ⟨pc, r2 ++ [oppR r], rfl, R, by rw [List.length_append]; show _ + 1 ≤ 40; omega, pos_app all hr, fun H6 S6 => ⟨_, rfl, k H6 (S35.trans (Sc.trans S6))⟩⟩
def sp__law_is_covered (K : PySem.W.Frag) : Sp := fun vs H Q _ => ∃ (L1 L2 : Addr) (r1 r2 : List Row), vs = [.ref L1, .ref L2] ∧ RowsAt H L1 r1 ∧ RowsAt H L2 r2 ∧ r1.length ≤ 20 ∧ r2.length ≤ 20 ∧ (∀ r ∈ r1, r ∈ allRows) ∧ (∀ r ∈ r2, r ∈ allRows) ∧ ∀ H', Same H H' → Q (.bl (covB r1 r2)) H'
theorem cov_empty (r1 r2 : List Row) : (r1.filter fun r => posB (r2 ++ [oppR r])).isEmpty = covB r1 r2 := by
  unfold covB
  induction r1 with
  | nil => rfl
  | cons r rs more =>
    rw [List.all_cons, ← more]
    cases e : posB (r2 ++ [oppR r]) <;> simp [e]
theorem ok__law_is_covered {P : Program} {w : World} {K : PySem.W.Frag} {mg : Str → Option Value} {base : Heap} {fd : FuncData} (T : Txt K mg w) (F : FnP K "_law_is_covered" s__law_is_covered [] fd) : FnOk P w K mg base CX0 3 (He.ga K "_law_is_covered") fd ps__law_is_covered (sp__law_is_covered K) := by
  obtain ⟨fd__law_is_possible, F__law_is_possible⟩ := T.d__law_is_possible
  have G__law_is_possible := ok__law_is_possible (P := P) (w := w) (base := base) T F__law_is_possible
  have k__law_is_possible := F__law_is_possible.kp
  have b__law_is_possible := bi__law_is_possible F__law_is_possible
  refine F.ok sc__law_is_covered (fun vs H Q E h => ?len) (fun cdv A outer s H vs Q E hr h => ?body)
  case len => obtain ⟨L1, L2, r1, r2, rfl, hR1, hR2, l1, l2, hN1, hN2, k⟩ := h; rfl
  case body =>
  obtain ⟨L1, L2, r1, r2, rfl, hR1, hR2, l1, l2, hN1, hN2, k⟩ := h
  have hu := hu_of hr
  refine ⟨_, PSs.nox (pss_cons (ps_set (i := 2) sc__law_is_covered.nd rfl (Or.inr rfl) (pe_disp (pps_cons pe_str pe_str (pps_cons pe_str pe_str (pps_cons pe_str pe_str (pps_cons pe_str pe_str pps_nil)))) (by rfl) (by rfl) (fun z => by cases z) (by decide)))
    (pss_one (ps_ret (pe_cmpR (op_eqNil hr.units) (pe_lc (own := [("_law_row", 3)]) rfl sc__law_is_covered.nd (pi_list (pv 0)) (blkOk_by (own := [("_law_row", 3)]) (N := N__law_is_covered) (sc := defScope s__law_is_covered) (by decide +kernel)) (fun _ _ _ _ _ => (pg_name (i := 3) sc__law_is_covered.nd rfl (Or.inl rfl))) (fun _ _ _ _ _ => (pts_one (pt_val (pe_call G__law_is_possible (hr.mono (by first | decide | omega)) rfl T.g__law_is_possible k__law_is_possible b__law_is_possible .nil pass0 (pa_cons (pe_op op_cat (pv 1) (pe_lst (pa_cons (pe_tup (pa_cons (pe_ix (show IxR _ (rIxT K) from ix_tup) (pv 3) pe_int (fun _ _ => rfl)) (pa_cons (pe_dget hu (pv 2) (pe_ix (show IxR _ (rIxT K) from ix_tup) (pv 3) pe_int (fun _ _ => rfl)) (fun _ _ => rfl)) (pa_cons (pe_ix (show IxR _ (rIxT K) from ix_tup) (pv 3) pe_int (fun _ _ => rfl)) pa_nil)))) pa_nil))) pa_nil))))) (fun _ _ _ _ _ => (pv 3))) (pe_lst pa_nil) (nomark _))))), ?_⟩
  intro pd qd
  refine ⟨upd_same, opps, rfl, by decide, ?_⟩
  rw [upd_upd]
  have S1 := Same.new (u := .dK (mergeK [] opps)) qd
  have gd : (upd H pd (.dK (mergeK [] opps))) pd = _ := upd_same
  generalize upd H pd (.dK (mergeK [] opps)) = H1 at S1 gd ⊢
  refine ⟨_, rfl, L1, rfl, rows_sq (rows_same S1 hR1), fun D hD => ?_⟩
  refine lc_rows (fun r => posB (r2 ++ [oppR r])) (rows_same S1 hR1) (by omega) hD ?_ ?_
  · intro p r hm hr0 H' Y N S' kk
    refine ⟨rfl, cov_test (b := 1) (d := 2) (v := 3) rfl rfl rfl (rows_same (S1.trans S') hR2) l2 hN2 (S' _ _ gd) (S' _ _ hr0) (hN1 r hm) fun H2 S2 => ?_⟩
    exact iteE rfl (fun e => ⟨_, rfl, (kk _ S2).1 e⟩) (fun e => (kk _ S2).2 e)
  · intro H2 S2 RF
    obtain ⟨fs, gF, hF⟩ := RF
    refine ⟨smallN (by show 0 ≤ 1000; decide), fun pe qe => ⟨D, pe, _, rfl, rfl, SqL.of (Same.new qe _ _ gF), SqL.of upd_same, ?_⟩⟩
    have := k _ (S1.trans (S2.trans (Same.new (u := .lst []) qe)))
    rw [← cov_empty] at this
    have e : (fs.map V.ref).isEmpty = (r1.filter fun r => posB (r2 ++ [oppR r])).isEmpty := by
      rw [List.isEmpty_map]
      exact len_empty (paired_len hF)
    rw [← e] at this
    exact this
def names11 : List Str := ["a", "b", "c", "d", "e", "f", "g", "h", "i", "j", "k"]
theorem names11_in : ∀ x ∈ names11, x ∈ names4 := by decide +kernel
theorem names_late : Names (names11.drop 5) := ⟨by decide, by decide, by decide +kernel, fun n hn => names11_in n (List.mem_of_mem_drop hn)⟩
def sp__law_case (K : PySem.W.Frag) : Sp := fun vs H Q _ => ∃ (a : Addr) (n : Nat), vs = [.ref a] ∧ WellAt H a n ∧ n < 1000 ∧ ∀ (H' : Hp) (n' : Nat) (p L M : Addr) (rs more : List Row), Keep a H H' → WellAt H' a n' → n' ≤ n + 100 → H' p = some (.tup [.ref L, .ref M]) → RowsAt H' L rs → RowsAt H' M more → L ≠ a → M ≠ a →
  (∀ r ∈ rs, r ∈ allRows ∧ r.nm ∈ names11) → (∀ r ∈ more, r ∈ allRows) → 6 ≤ rs.length → rs.length ≤ 8 → more.length ≤ 3 → Q (.ref p) H'
theorem ok__law_case {P : Program} {w : World} {K : PySem.W.Frag} {mg : Str → Option Value} {base : Heap} {fd : FuncData} (T : Txt K mg w) (F : FnP K "_law_case" s__law_case [] fd) : FnOk P w K mg base CX0 5 (He.ga K "_law_case") fd ps__law_case (sp__law_case K) := by
  obtain ⟨fd__law_requirement, F__law_requirement⟩ := T.d__law_requirement
  have G__law_requirement := ok__law_requirement (P := P) (w := w) (base := base) T F__law_requirement
  have k__law_requirement := F__law_requirement.kp
  have b__law_requirement := bi__law_requirement F__law_requirement
  obtain ⟨fd__law_draw, F__law_draw⟩ := T.d__law_draw
  have G__law_draw := ok__law_draw (P := P) (w := w) (base := base) T F__law_draw
  have k__law_draw := F__law_draw.kp
  have b__law_draw := bi__law_draw F__law_draw
  obtain ⟨fd__law_value, F__law_value⟩ := T.d__law_value
  have G__law_value := ok__law_value (P := P) (w := w) (base := base) T F__law_value
  have k__law_value := F__law_value.kp
  have b__law_value := bi__law_value F__law_value
  refine F.ok sc__law_case (fun vs H Q E h => ?len) (fun cdv A outer s H vs Q E hr h => ?body)
  case len => obtain ⟨a, n, rfl, hw, hn, k⟩ := h; rfl
  case body =>
  obtain ⟨a, n, rfl, hw, hn, k⟩ := h
  have hu := hu_of hr
  refine ⟨_, PSs.nox (pss_cons (ps_set (i := 1) sc__law_case.nd rfl (Or.inr rfl) (pe_lst (pa_cons pe_str (pa_cons pe_str (pa_cons pe_str (pa_cons pe_str (pa_cons pe_str (pa_cons pe_str (pa_cons pe_str (pa_cons pe_str (pa_cons pe_str (pa_cons pe_str (pa_cons pe_str pa_nil)))))))))))))
    (pss_cons (ps_set (i := 2) sc__law_case.nd rfl (Or.inl rfl) (pe_lst pa_nil))
    (pss_cons (ps_for PassesOwn.never rfl (pi_list (pe_slice sl_list (pv 1) po_none (po_some (pe_op op_add pe_int (pe_call G__law_draw (hr.mono (by first | decide | omega)) rfl T.g__law_draw k__law_draw b__law_draw .nil pass0 (pa_cons (pv 0) (pa_cons pe_int pa_nil))))))) (pg_name (i := 3) sc__law_case.nd rfl (Or.inl rfl))
      (pss_one (ps_expr (pe_bm PySem.F.plainAttrs_list PySem.F.slot_list_append PySem.F.type_list_append mt_append (pv 2) (pa_cons (pe_ifExp (pt_cmpR op_eq (pe_call G__law_draw (hr.mono (by first | decide | omega)) rfl T.g__law_draw k__law_draw b__law_draw .nil pass0 (pa_cons (pv 0) (pa_cons pe_int pa_nil))) pe_int (nomark _)) (pe_tup (pa_cons (pv 3) (pa_cons pe_str (pa_cons (pe_call G__law_value (hr.mono (by first | decide | omega)) rfl T.g__law_value k__law_value b__law_value .nil pass0 (pa_cons (pv 0) pa_nil)) pa_nil)))) (pe_tup (pa_cons (pv 3) (pa_cons pe_str (pa_cons pe_str pa_nil))))) pa_nil)))))
    (pss_cons (ps_setLc (i := 4) (own := [("_law_k", 5)]) rfl sc__law_case.nd rfl rfl (sw_true rfl rfl rfl (by decide +kernel)) (pi_range1 rfl T.n_range (pa_cons (pe_call G__law_draw (hr.mono (by first | decide | omega)) rfl T.g__law_draw k__law_draw b__law_draw .nil pass0 (pa_cons (pv 0) (pa_cons pe_int pa_nil))) pa_nil)) (blkOk_by (own := [("_law_k", 5)]) (N := N__law_case) (sc := defScope s__law_case) (by decide +kernel)) (fun _ _ _ _ _ => (pg_name (i := 5) sc__law_case.nd rfl (Or.inl rfl))) (fun _ _ _ _ _ => pts_nil) (fun _ _ _ _ _ => (pe_call G__law_requirement (hr.mono (by first | decide | omega)) rfl T.g__law_requirement k__law_requirement b__law_requirement .nil pass0 (pa_cons (pv 0) (pa_cons (pe_slice (show SlR _ (rSlL K) from sl_list) (pv 1) (po_some pe_int) po_none) pa_nil)))))
    (pss_one (ps_ret (pe_tup (pa_cons (pv 2) (pa_cons (pv 4) pa_nil))))))))), ?_⟩
  refine ⟨smallN (by show 11 ≤ 1000; decide), fun pN qN => ?_⟩
  have K1 := Keep.new (a := a) (u := .lst (names11.map V.str)) qN
  have w1 := well_new (u := .lst (names11.map V.str)) hw qN
  have gN : (upd H pN (.lst (names11.map V.str))) pN = _ := upd_same
  have nN : pN ≠ a := well_ne3 hw qN
  show tSeq _ _ _ _ (upd H pN (.lst (names11.map V.str)))
  generalize upd H pN (.lst (names11.map V.str)) = H1 at K1 w1 gN ⊢
  refine ⟨smallN (by show 0 ≤ 1000; decide), fun F qF => ?_⟩
  have K2 := K1.trans (Keep.new (a := a) (u := .lst []) qF)
  have w2 := well_new (u := .lst []) w1 qF
  have gN2 := Same.new (u := .lst []) qF _ _ gN
  have gF : (upd H1 F (.lst [])) F = some (.lst (([] : List Addr).map V.ref)) := upd_same
  have nF : F ≠ a := well_ne3 w1 qF
  have fF : H F = none := by
    cases e : H F with
    | none => rfl
    | some o => rw [K1 _ _ nF e] at qF; cases qF
  generalize upd H1 F (.lst []) = H2 at K2 w2 gN2 gF ⊢
  refine ⟨_, rfl, _, rfl, a, n, 3, rfl, w2, by omega, by decide, by decide, fun r u n3 r0 r1 hn3 hu3 => ?_⟩
  have K3 := K2.trans (Keep.at_ (u := u))
  have w3 := well_upd (H := H2) (a := a) hu3
  have gN3 : upd H2 a u pN = _ := Keep.at_ _ _ nN gN2
  have gF3 : upd H2 a u F = _ := Keep.at_ _ _ nF gF
  generalize upd H2 a u = H3 at K3 w3 gN3 gF3 ⊢
  refine ⟨_, _, rfl, rfl, _, rfl, pN, _, rfl, SqL.of gN3, fun p4 q4 => ?_⟩
  rw [cut_takeI _ (by omega), ← List.map_take]
  obtain ⟨m, hm⟩ : ∃ m, (6 + r).toNat = m := ⟨_, rfl⟩
  have m6 : 6 ≤ m ∧ m ≤ 8 := by omega
  rw [hm]
  have K4 := K3.trans (Keep.new (a := a) (u := .lst ((names11.take m).map V.str)) q4)
  have w4 := well_new (u := .lst ((names11.take m).map V.str)) w3 q4
  have S4 := Same.new (u := .lst ((names11.take m).map V.str)) q4
  have g4 : (upd H3 p4 (.lst ((names11.take m).map V.str))) p4 = _ := upd_same
  have n4 : p4 ≠ a := well_ne3 w3 q4
  have gN4 := S4 _ _ gN3
  have gF4 := S4 _ _ gF3
  have nF4 : F ≠ p4 := ne_of_none gF3 q4
  have nFN : F ≠ pN := fun z => by rw [z, gN] at qF; cases qF
  generalize upd H3 p4 (.lst ((names11.take m).map V.str)) = H4 at K4 w4 g4 gN4 gF4 ⊢
  have lm : (names11.take m).length = m := by rw [List.length_take]; show min m 11 = m; omega
  refine ⟨p4, rfl, ⟨_, SqL.of g4⟩, for_list (K := K) (a := p4) (xs := (names11.take m).map V.str) (fun i σ H' => ∃ (v3 v4 v5 : Option V) (n' : Nat) (rs : List Row), σ = [some (.ref a), some (.ref pN), some (.ref F), v3, v4, v5] ∧ Keep a H H' ∧ WellAt H' a n' ∧ n' ≤ n + 1 + 2 * i ∧ RowsAt H' F rs ∧ rs.length = i ∧ (∀ r ∈ rs, r ∈ allRows ∧ r.nm ∈ names11) ∧ H' pN = some (.lst (names11.map V.str)) ∧ H' p4 = some (.lst ((names11.take m).map V.str)))
    ⟨_, _, _, n3, [], rfl, K4, w4, by omega, ⟨[], gF4, .nil⟩, rfl, fun r hr0 => (nomatch hr0), gN4, g4⟩ (fun i σ H' _ ⟨_, _, _, _, _, _, _, _, _, _, _, _, _, g⟩ => SqL.of g) ?_ ?_⟩
  · rintro i x σ H5 hx ⟨v3, v4, v5, n5, rs, rfl, K5, w5, hn5, RF, ln, all, gN5, g5⟩
    rw [List.getElem?_map] at hx
    obtain ⟨nm, en, rfl⟩ := Option.map_eq_some_iff.mp hx
    have him := lt_at en
    rw [lm] at him
    have hnm : nm ∈ names11 := List.mem_of_mem_take (mem_at en)
    have h4 := names11_in nm hnm
    -- what is put in
    have put : ∀ (q : Addr) (H6 : Hp) (n6 : Nat) (r : Row), Keep a H5 H6 → WellAt H6 a n6 → n6 ≤ n + 1 + 2 * (i + 1) → RowAt H6 q r → r ∈ allRows ∧ r.nm ∈ names11 →
        ∃ l xs y, V.ref F = .ref l ∧ [V.ref q] = [y] ∧ H6 l = some (.lst xs) ∧ xs.length < sizeLine ∧ ∃ (y3 y4 y5 : Option V) (n' : Nat) (rs : List Row), [some (V.ref a), some (.ref pN), some (.ref F), some (.str nm), v4, v5] = [some (.ref a), some (.ref pN), some (.ref F), y3, y4, y5] ∧ Keep a H (upd H6 l (.lst (xs ++ [y]))) ∧ WellAt (upd H6 l (.lst (xs ++ [y]))) a n' ∧ n' ≤ n + 1 + 2 * (i + 1) ∧ RowsAt (upd H6 l (.lst (xs ++ [y]))) F rs ∧ rs.length = i + 1 ∧ (∀ r ∈ rs, r ∈ allRows ∧ r.nm ∈ names11) ∧ (upd H6 l (.lst (xs ++ [y]))) pN = some (.lst (names11.map V.str)) ∧ (upd H6 l (.lst (xs ++ [y]))) p4 = some (.lst ((names11.take m).map V.str)) := by
      intro q H6 n6 r' K6 w6 hn6 hq hr'
      have RF6 := rows_keep w5 K6 nF RF
      obtain ⟨ps, gF6, hp6⟩ := id RF6
      have lp := paired_len hp6
      refine ⟨F, _, _, rfl, rfl, gF6, small1000 (by rw [List.length_map]; omega), _, v4, v5, n6, rs ++ [r'], rfl, fun b o nb hb => ?_, ?_, hn6, rows_push RF6 gF6 hq, by rw [List.length_append, ln]; rfl, fun z hz => ?_, ?_, ?_⟩
      · rw [upd_ne (fun z => by rw [z, fF] at hb; cases hb)]; exact K6 _ _ nb (K5 _ _ nb hb)
      · obtain ⟨v, hv, o⟩ := w6; exact ⟨v, by rw [upd_ne nF.symm]; exact hv, o⟩
      · rcases List.mem_append.mp hz with hz | hz
        · exact all z hz
        · rw [List.mem_singleton.mp hz]; exact hr'
      · rw [upd_ne nFN.symm]; exact K6 _ _ nN gN5
      · rw [upd_ne nF4.symm]; exact K6 _ _ n4 g5
    obtain ⟨pF5, gF5, _⟩ := id RF
    refine ⟨_, rfl, .inl ⟨rfl, _, SqL.of gF5⟩, ?_⟩
    refine ⟨_, rfl, a, n5, 2, rfl, w5, by omega, by decide, by decide, fun r2 u2 n6 _ _ hn6 hu6 => ?_⟩
    have K6 : Keep a H5 (upd H5 a u2) := Keep.at_
    have w6 := well_upd (H := H5) (a := a) hu6
    generalize upd H5 a u2 = H6 at K6 w6 ⊢
    refine ⟨rfl, _, rfl, ?_⟩
    cases decide (V.int r2 = V.int 0) with
    | true =>
      refine iteT ⟨_, rfl, _, rfl, a, n6, rfl, w6, by omega, fun z H7 n7 hz K7 w7 hn7 => ⟨smallN (by show 3 ≤ 1000; decide), fun q qq => ?_⟩⟩
      exact put q _ n7 ⟨nm, .is, z⟩ (K6.trans (K7.trans (Keep.new qq))) (well_new w7 qq) (by omega) upd_same ⟨(row_mem h4 hz).1, hnm⟩
    | false =>
      refine iteF ⟨_, rfl, smallN (by show 3 ≤ 1000; decide), fun q qq => ?_⟩
      exact put q _ n6 ⟨nm, .there, ""⟩ (K6.trans (Keep.new qq)) (well_new w6 qq) (by omega) upd_same ⟨(row_mem h4 (v := "") (by simp [vals8])).2.2.1, hnm⟩
  · rintro σ H5 ⟨v3, v4, v5, n5, rs, rfl, K5, w5, hn5, RF, ln, all, gN5, g5⟩
    rw [List.length_map, lm] at ln hn5
    refine ⟨_, rfl, a, n5, 4, rfl, w5, by omega, by decide, by decide, fun c u n6 c0 c1 hn6 hu6 => ?_⟩
    have K6 : Keep a H5 (upd H5 a u) := Keep.at_
    have w6 := well_upd (H := H5) (a := a) hu6
    have gN6 := K6 _ _ nN gN5
    have RF6 := rows_keep w5 K6 nF RF
    generalize upd H5 a u = H6 at K6 w6 gN6 RF6 ⊢
    refine ⟨c, rfl, by omega, by omega, fun D hD => ?_⟩
    have nD : D ≠ a := well_ne3 w6 hD
    refine lc_range (lo := 0) (n := c.toNat) (fun i H' => Keep a H6 H' ∧ ∃ (n' : Nat) (more : List Row), WellAt H' a n' ∧ n' ≤ n5 + 1 + 3 * i ∧ RowsAt H' D more ∧ more.length = i ∧ ∀ r ∈ more, r ∈ allRows)
      ⟨Keep.new hD, n6, [], well_new w6 hD, by omega, ⟨[], upd_same, .nil⟩, rfl, fun r hr0 => by cases hr0⟩ ?_ ?_
    · rintro i H7 hi ⟨K7, n7, more, w7, hn7, RD, lD, aD⟩
      refine ⟨rfl, yes_ (iteT ?_)⟩
      refine ⟨_, rfl, _, rfl, _, rfl, pN, _, rfl, SqL.of (K7 _ _ nN gN6), fun p8 q8 => ?_⟩
      rw [cut_dropI _ (by decide), ← List.map_drop]
      have K8 := K7.trans (Keep.new (a := a) (u := .lst ((names11.drop 5).map V.str)) q8)
      refine ⟨a, p8, n7, names11.drop 5, rfl, well_new w7 q8, by omega, upd_same, well_ne3 w7 q8, names_late, fun p r H9 n9 hr9 rA K9 w9 hn9 => ?_⟩
      have RD9 := rows_keep (well_new w7 q8) K9 nD (rows_same (Same.new q8) RD)
      obtain ⟨ps, gD, hp⟩ := id RD9
      have lp := paired_len hp
      refine ⟨_, gD, small1000 (by rw [List.length_map]; omega), fun b o nb hb => ?_, n9, more ++ [r], ?_, by omega, rows_push RD9 gD rA, by rw [List.length_append, lD]; rfl, fun z hz => ?_⟩
      · rw [upd_ne (ne_of_none hb hD)]; exact K9 _ _ nb (K8 _ _ nb hb)
      · obtain ⟨v, hv, o⟩ := w9; exact ⟨v, by rw [upd_ne nD.symm]; exact hv, o⟩
      · rcases List.mem_append.mp hz with hz | hz
        · exact aD z hz
        · rw [List.mem_singleton.mp hz]; exact hr9.1
    · rintro H7 ⟨K7, n7, more, w7, hn7, RD, lD, aD⟩
      refine ⟨_, rfl, _, rfl, smallN (by show 2 ≤ 1000; decide), fun p qp => ?_⟩
      exact k _ n7 p F D rs more (K5.trans (K6.trans (K7.trans (Keep.new qp)))) (well_new w7 qp) (by omega) upd_same (rows_same (Same.new qp) (rows_keep w6 K7 nF RF6)) (rows_same (Same.new qp) RD) nF nD all aD (by omega) (by omega) (by omega)

theorem pr_same {H H' : Hp} {ps : List Addr} {rs : List Row} (s : Same H H') (h : Paired (RowAt H) ps rs) : Paired (RowAt H') ps rs := Paired.mono (fun p r q => s _ _ q) h
def SomeAt (H : Hp) (S : Addr) (rss : List (List Row)) : Prop := ∃ ps : List Addr, H S = some (.lst (ps.map V.ref)) ∧ Paired (RowsAt H) ps rss
theorem some_same {H H' : Hp} {S : Addr} {rss : List (List Row)} (s : Same H H') (h : SomeAt H S rss) : SomeAt H' S rss := have ⟨ps, h1, h2⟩ := h; ⟨ps, s _ _ h1, Paired.mono (fun _ _ q => rows_same s q) h2⟩
theorem norm_scal (r1 r2 : List Row) : scal (normV r1) (normV r2) = true := by
  unfold normV
  split <;> split <;> rfl
theorem norm_pos {rs : List Row} (h : Rows8 rs) : (!decide (normV rs = .non)) = posB rs := by
  rw [pos8 h.1]
  cases e : okB rs with
  | true => rw [norm_ok e]; rfl
  | false => rw [norm_no e]; rfl
section
variable {K : PySem.W.Frag} {C : TS} {E : Ends} {H : Hp} {S T O : Addr} {one : List Row} {rss : List (List Row)} {x0 x1 x2 x3 x4 x5 x6 x11 x12 : Option V}
theorem nr_inner (hS : SomeAt H S rss) (hT : H T = some (.lst (rss.map normV))) (all : ∀ rs ∈ rss, Rows8 rs) (hO : RowsAt H O one) (h1 : Rows8 one)
    (k : ∀ y11 y12 H', Same H H' → E.nx [x0, x1, x2, x3, x4, x5, x6, some (.ref S), some (.ref T), some (.ref O), some (normV one), y11, y12] H') :
    tFor (iZip K (tCons (tVar 7) (tCons (tVar 8) tNil))) (gTup K 2 (gCons (gName 11) (gCons (gName 12) gNil))) (tIfS (tTest (tOp rNe (tOp rEq (tVar 10) (tVar 12)) (tAndV (tCall (sp__law_is_covered K) [] E0 (tCons (tVar 9) (tCons (tVar 11) tNil))) (tCall (sp__law_is_covered K) [] E0 (tCons (tVar 11) (tCons (tVar 9) tNil)))))) (tRet (tC (V.bl false))) tNext) E
      [x0, x1, x2, x3, x4, x5, x6, some (.ref S), some (.ref T), some (.ref O), some (normV one), x11, x12] H := by
  obtain ⟨ps, gS, hp⟩ := hS
  have lp := paired_len hp
  have f1 := h1.1
  refine ⟨_, rfl, _, rfl, S, T, _, _, rfl, SqL.of gS, SqL.of hT, RZ.for_zipL (K := K) (a := S) (b := T) (xs := ps.map V.ref) (ys := rss.map normV) (by rw [List.length_map, List.length_map, lp]) (fun i σ H' => ∃ (y11 y12 : Option V), σ = [x0, x1, x2, x3, x4, x5, x6, some (.ref S), some (.ref T), some (.ref O), some (normV one), y11, y12] ∧ Same H H')
    ⟨_, _, rfl, Same.refl _⟩ (fun i σ H' ⟨_, _, _, s⟩ => ⟨SqL.of (s _ _ gS), SqL.of (s _ _ hT)⟩) ?_ (fun σ H' ⟨_, _, e, s⟩ => by subst e; exact k _ _ H' s)⟩
  rintro i x y Tp σ H1 hx hy ⟨y11, y12, rfl, S1⟩ hTp
  rw [List.getElem?_map] at hx hy
  obtain ⟨p, ep, rfl⟩ := Option.map_eq_some_iff.mp hx
  obtain ⟨q, eq, rfl⟩ := Option.map_eq_some_iff.mp hy
  obtain ⟨q', eq', hq⟩ := paired_at hp ep
  rw [eq] at eq'
  cases eq'
  have h2 := all q (mem_at eq)
  have f2 := h2.1
  refine ⟨Tp, _, rfl, SqT.of upd_same, rfl, _, _, rfl, _, _, rfl, rfl, ?_⟩
  have S2 := S1.trans (Same.new (u := .tup [V.ref p, normV q]) hTp)
  generalize upd H1 Tp (.tup [V.ref p, normV q]) = H2 at S2 ⊢
  refine ⟨_, rfl, _, rfl, norm_scal _ _, _, rfl, _, rfl, O, p, one, q, rfl, rows_same S2 hO, rows_same S2 hq, by omega, by omega, h1.2, h2.2, fun H3 S3 => ⟨_, rfl, ?_⟩⟩
  have fin : ∀ (b : Bool) H', Same H2 H' → b = (covB one q && covB q one) → scal (V.bl (decide (normV one = normV q))) (V.bl b) = true ∧ ∃ k, V.bl (!decide (V.bl (decide (normV one = normV q)) = V.bl b)) = V.bl k ∧ if k = true then E.rt (.bl false) H' else ∃ (z11 z12 : Option V), [x0, x1, x2, x3, x4, x5, x6, some (.ref S), some (.ref T), some (.ref O), some (normV one), some (V.ref p), some (normV q)] = [x0, x1, x2, x3, x4, x5, x6, some (.ref S), some (.ref T), some (.ref O), some (normV one), z11, z12] ∧ Same H H' := by
    rintro b H' S' rfl
    refine ⟨rfl, _, rfl, ?_⟩
    have e : decide (normV one = normV q) = (covB one q && covB q one) := by
      rw [Bool.eq_iff_iff, decide_eq_true_iff, norm_cov h1 h2, Bool.and_eq_true_iff]
    rw [e, decide_eq_true rfl]
    exact iteF ⟨_, _, rfl, S2.trans S'⟩
  cases e1 : covB one q with
  | false => exact iteF (fin false H3 S3 (by rw [e1]; rfl))
  | true =>
    refine iteT ⟨_, rfl, _, rfl, p, O, q, one, rfl, rows_same (S2.trans S3) hq, rows_same (S2.trans S3) hO, by omega, by omega, h2.2, h1.2, fun H4 S4 => ?_⟩
    exact fin (covB q one) H4 (S3.trans S4) (by rw [e1]; rfl)
theorem nr_pos (hO : RowsAt H O one) (h1 : Rows8 one) (k : ∀ H', Same H H' → C E [x0, x1, x2, x3, x4, x5, x6, some (.ref S), some (.ref T), some (.ref O), some (normV one), x11, x12] H') :
    tSeq (tIfS (tTest (tOp rNe (tOp (fun x y H Q => y = V.non ∧ Q (V.bl !decide (x = V.non)) H) (tVar 10) (tC V.non)) (tCall (sp__law_is_possible K) [] E0 (tCons (tVar 9) tNil)))) (tRet (tC (V.bl false))) tNext) C E
      [x0, x1, x2, x3, x4, x5, x6, some (.ref S), some (.ref T), some (.ref O), some (normV one), x11, x12] H := by
  refine ⟨_, rfl, rfl, _, rfl, O, one, rfl, hO, by have := h1.1; omega, h1.2, fun H1 S1 => ⟨rfl, _, rfl, ?_⟩⟩
  rw [norm_pos h1, decide_eq_true rfl]
  exact iteF (k H1 S1)
theorem nr_cov1 (hO : RowsAt H O one) (h1 : Rows8 one) (k : ∀ H', Same H H' → C E [x0, x1, x2, x3, x4, x5, x6, some (.ref S), some (.ref T), some (.ref O), some (normV one), x11, x12] H') :
    tSeq (tIfS (tAnd (tTest (tOp (fun x y H Q => y = V.non ∧ Q (V.bl !decide (x = V.non)) H) (tVar 10) (tC V.non))) (tTest (tOp (fun x y H Q => y = V.non ∧ Q (V.bl !decide (x = V.non)) H) (tCall (sp_covers K) [] E0 (tCons (tVar 10) (tCons (tCall (sp__law_text K) [] E0 (tCons (tVar 9) tNil)) tNil))) (tC V.non)))) (tRet (tC (V.bl false))) tNext) C E
      [x0, x1, x2, x3, x4, x5, x6, some (.ref S), some (.ref T), some (.ref O), some (normV one), x11, x12] H := by
  refine ⟨_, rfl, rfl, _, rfl, ?_⟩
  cases ok : okB one with
  | false => rw [norm_no ok] at k ⊢; exact iteF (iteF (k H (Same.refl H)))
  | true =>
    rw [norm_ok ok] at k ⊢
    refine iteT ⟨_, rfl, _, rfl, O, one, rfl, hO, h1, fun H1 S1 => ⟨_, _, rfl, nrows8 (isB_of ok) h1, h1, fun _ H2 S2 => ⟨rfl, _, rfl, iteF (k H2 (S1.trans S2))⟩, fun r bs p H2 hr isb need _ _ _ => ?_⟩⟩
    exact absurd (cov_norm h1 ok).1 (by rw [cov_yes hr isb need]; decide)
theorem nr_cov2 (hO : RowsAt H O one) (h1 : Rows8 one) (k : ∀ H', Same H H' → C E [x0, x1, x2, x3, x4, x5, x6, some (.ref S), some (.ref T), some (.ref O), some (normV one), x11, x12] H') :
    tSeq (tIfS (tAnd (tTest (tOp (fun x y H Q => y = V.non ∧ Q (V.bl !decide (x = V.non)) H) (tVar 10) (tC V.non))) (tTest (tOp (fun x y H Q => y = V.non ∧ Q (V.bl !decide (x = V.non)) H) (tCall (sp_covers K) [] E0 (tCons (tCall (sp__law_text K) [] E0 (tCons (tVar 9) tNil)) (tCons (tVar 10) tNil))) (tC V.non)))) (tRet (tC (V.bl false))) tNext) C E
      [x0, x1, x2, x3, x4, x5, x6, some (.ref S), some (.ref T), some (.ref O), some (normV one), x11, x12] H := by
  refine ⟨_, rfl, rfl, _, rfl, ?_⟩
  cases ok : okB one with
  | false => rw [norm_no ok] at k ⊢; exact iteF (iteF (k H (Same.refl H)))
  | true =>
    rw [norm_ok ok] at k ⊢
    refine iteT ⟨_, rfl, O, one, rfl, hO, h1, fun H1 S1 => ⟨_, rfl, _, _, rfl, h1, nrows8 (isB_of ok) h1, fun _ H2 S2 => ⟨rfl, _, rfl, iteF (k H2 (S1.trans S2))⟩, fun r bs p H2 hr isb need _ _ _ => ?_⟩⟩
    exact absurd (cov_norm h1 ok).2 (by rw [cov_yes hr isb need]; decide)
end
def askR (r : Row) : Row := if r.vb = .there then ⟨r.nm, .is, ""⟩ else r
theorem ask_mem {r : Row} (h : r ∈ allRows) : askR r ∈ allRows := by
  unfold askR
  split
  · exact (row_mem (row_of h).1 (v := "") (by simp [vals8])).1
  · exact h
theorem names_five : Names ["a", "f", "g", "i", "k"] := ⟨by decide, by decide, by decide +kernel, by decide +kernel⟩
def sp__law_normals_right (K : PySem.W.Frag) : Sp := fun vs H Q _ => ∃ (a L : Addr) (n : Nat) (rs : List Row), vs = [.ref a, .ref L] ∧ WellAt H a n ∧ n < 10000 ∧ RowsAt H L rs ∧ L ≠ a ∧ Rows8 rs ∧ 1 ≤ rs.length ∧ ∀ (H' : Hp) (n' : Nat), Keep a H H' → WellAt H' a n' → n' ≤ n + 10 → Q (.bl true) H'
theorem ok__law_normals_right {P : Program} {w : World} {K : PySem.W.Frag} {mg : Str → Option Value} {base : Heap} {fd : FuncData} (T : Txt K mg w) (F : FnP K "_law_normals_right" s__law_normals_right [] fd) : FnOk P w K mg base CX0 7 (He.ga K "_law_normals_right") fd ps__law_normals_right (sp__law_normals_right K) := by
  obtain ⟨fd__law_draw, F__law_draw⟩ := T.d__law_draw
  have G__law_draw := ok__law_draw (P := P) (w := w) (base := base) T F__law_draw
  have k__law_draw := F__law_draw.kp
  have b__law_draw := bi__law_draw F__law_draw
  obtain ⟨fd_normal, F_normal⟩ := T.d_normal
  have G_normal := ok_normal (P := P) (w := w) (base := base) T F_normal
  have k_normal := F_normal.kp
  have b_normal := bi_normal F_normal
  obtain ⟨fd__law_text, F__law_text⟩ := T.d__law_text
  have G__law_text := ok__law_text (P := P) (w := w) (base := base) T F__law_text
  have k__law_text := F__law_text.kp
  have b__law_text := bi__law_text F__law_text
  obtain ⟨fd__law_is_possible, F__law_is_possible⟩ := T.d__law_is_possible
  have G__law_is_possible := ok__law_is_possible (P := P) (w := w) (base := base) T F__law_is_possible
  have k__law_is_possible := F__law_is_possible.kp
  have b__law_is_possible := bi__law_is_possible F__law_is_possible
  obtain ⟨fd__law_requirement, F__law_requirement⟩ := T.d__law_requirement
  have G__law_requirement := ok__law_requirement (P := P) (w := w) (base := base) T F__law_requirement
  have k__law_requirement := F__law_requirement.kp
  have b__law_requirement := bi__law_requirement F__law_requirement
  obtain ⟨fd_covers, F_covers⟩ := T.d_covers
  have G_covers := ok_covers (P := P) (w := w) (base := base) T F_covers
  have k_covers := F_covers.kp
  have b_covers := bi_covers F_covers
  obtain ⟨fd__law_is_covered, F__law_is_covered⟩ := T.d__law_is_covered
  have G__law_is_covered := ok__law_is_covered (P := P) (w := w) (base := base) T F__law_is_covered
  have k__law_is_covered := F__law_is_covered.kp
  have b__law_is_covered := bi__law_is_covered F__law_is_covered
  refine F.ok sc__law_normals_right (fun vs H Q E h => ?len) (fun cdv A outer s H vs Q E hr h => ?body)
  case len => obtain ⟨a, L, n, rs, rfl, hw, hn, hR, nL, h8, h1, k⟩ := h; rfl
  case body =>
  obtain ⟨a, L, n, rs, rfl, hw, hn, hR, nL, h8, h1, k⟩ := h
  have hu := hu_of hr
  refine ⟨_, PSs.nox (pss_cons (ps_par (i := 2) (j := 3) (by rfl) sc__law_normals_right.nd rfl rfl (by decide) rfl rfl (pa_cons (pe_call G__law_draw (hr.mono (by first | decide | omega)) rfl T.g__law_draw k__law_draw b__law_draw .nil pass0 (pa_cons (pv 0) (pa_cons (pe_callB call_len_seq (by rfl) T.n_len (by decide +kernel) (pa_cons (pv 1) pa_nil)) pa_nil))) (pa_cons (pe_lst pa_nil) pa_nil)) (by rfl))
    (pss_cons (ps_for PassesOwn.never rfl (pi_list (pv 1)) (pg_tup rfl (pgs_cons (pg_name (i := 4) sc__law_normals_right.nd rfl (Or.inl rfl)) (pgs_cons (pg_name (i := 5) sc__law_normals_right.nd rfl (Or.inl rfl)) (pgs_cons (pg_name (i := 6) sc__law_normals_right.nd rfl (Or.inl rfl)) pgs_nil))))
      (pss_one (ps_expr (pe_bm PySem.F.plainAttrs_list PySem.F.slot_list_append PySem.F.type_list_append mt_append (pv 3) (pa_cons (pe_ifExp (pt_cmpR op_eq (pv 5) pe_str (nomark _)) (pe_tup (pa_cons (pv 4) (pa_cons pe_str (pa_cons pe_str pa_nil)))) (pe_tup (pa_cons (pv 4) (pa_cons (pv 5) (pa_cons (pv 6) pa_nil))))) pa_nil)))))
    (pss_cons (ps_set (i := 7) sc__law_normals_right.nd rfl (Or.inl rfl) (pe_lst (pa_cons (pv 1) (pa_cons (pe_revL (pv 1)) (pa_cons (pv 3) (pa_cons (pe_op op_cat (pe_slice sl_list (pv 1) po_none (po_some (pv 2))) (pe_slice sl_list (pv 1) (po_some (pe_op op_add (pv 2) pe_int)) po_none)) pa_nil))))))
    (pss_cons (ps_expr (pe_bm PySem.F.plainAttrs_list PySem.F.slot_list_append PySem.F.type_list_append mt_append (pv 7) (pa_cons (pe_op op_cat (pe_slice sl_list (pv 1) po_none (po_some pe_int)) (pe_lst (pa_cons (pe_call G__law_requirement (hr.mono (by first | decide | omega)) rfl T.g__law_requirement k__law_requirement b__law_requirement .nil pass0 (pa_cons (pv 0) (pa_cons (pe_lst (pa_cons pe_str (pa_cons pe_str (pa_cons pe_str (pa_cons pe_str (pa_cons pe_str pa_nil)))))) pa_nil))) pa_nil))) pa_nil)))
    (pss_cons (ps_setLc (i := 8) (own := [("_law_one", 9)]) rfl sc__law_normals_right.nd rfl rfl (sw_true rfl rfl rfl (by decide +kernel)) (pi_list (pv 7)) (blkOk_by (own := [("_law_one", 9)]) (N := N__law_normals_right) (sc := defScope s__law_normals_right) (by decide +kernel)) (fun _ _ _ _ _ => (pg_name (i := 9) sc__law_normals_right.nd rfl (Or.inl rfl))) (fun _ _ _ _ _ => pts_nil) (fun _ _ _ _ _ => (pe_call G_normal (hr.mono (by first | decide | omega)) rfl T.g_normal k_normal b_normal .nil pass0 (pa_cons (pe_call G__law_text (hr.mono (by first | decide | omega)) rfl T.g__law_text k__law_text b__law_text .nil pass0 (pa_cons (pv 9) pa_nil)) pa_nil))))
    (pss_cons (ps_for PassesOwn.never rfl (pi_zip (by rfl) T.n_zip (pa_cons (pv 7) (pa_cons (pv 8) pa_nil))) (pg_tup rfl (pgs_cons (pg_name (i := 9) sc__law_normals_right.nd rfl (Or.inl rfl)) (pgs_cons (pg_name (i := 10) sc__law_normals_right.nd rfl (Or.inl rfl)) pgs_nil)))
      (pss_cons (ps_if (pt_cmpR op_ne (pe_cmpR op_notN (pv 10) pe_non (nomark _)) (pe_call G__law_is_possible (hr.mono (by first | decide | omega)) rfl T.g__law_is_possible k__law_is_possible b__law_is_possible .nil pass0 (pa_cons (pv 9) pa_nil)) (nomark _)) (pss_one (ps_ret pe_bl)) pss_nil)
        (pss_cons (ps_if (PW.pt (pw_and (pt_cmpR op_notN (pv 10) pe_non (nomark _)) (pw_and1 (pt_cmpR op_notN (pe_call G_covers (hr.mono (by first | decide | omega)) rfl T.g_covers k_covers b_covers .nil pass0 (pa_cons (pv 10) (pa_cons (pe_call G__law_text (hr.mono (by first | decide | omega)) rfl T.g__law_text k__law_text b__law_text .nil pass0 (pa_cons (pv 9) pa_nil)) pa_nil))) pe_non (nomark _))))) (pss_one (ps_ret pe_bl)) pss_nil)
        (pss_cons (ps_if (PW.pt (pw_and (pt_cmpR op_notN (pv 10) pe_non (nomark _)) (pw_and1 (pt_cmpR op_notN (pe_call G_covers (hr.mono (by first | decide | omega)) rfl T.g_covers k_covers b_covers .nil pass0 (pa_cons (pe_call G__law_text (hr.mono (by first | decide | omega)) rfl T.g__law_text k__law_text b__law_text .nil pass0 (pa_cons (pv 9) pa_nil)) (pa_cons (pv 10) pa_nil))) pe_non (nomark _))))) (pss_one (ps_ret pe_bl)) pss_nil)
        (pss_one (ps_for PassesOwn.never rfl (pi_zip (by rfl) T.n_zip (pa_cons (pv 7) (pa_cons (pv 8) pa_nil))) (pg_tup rfl (pgs_cons (pg_name (i := 11) sc__law_normals_right.nd rfl (Or.inl rfl)) (pgs_cons (pg_name (i := 12) sc__law_normals_right.nd rfl (Or.inl rfl)) pgs_nil)))
          (pss_one (ps_if (pt_cmpR op_ne (pe_cmpR op_eq (pv 10) (pv 12) (nomark _)) (pe_and (pe_call G__law_is_covered (hr.mono (by first | decide | omega)) rfl T.g__law_is_covered k__law_is_covered b__law_is_covered .nil pass0 (pa_cons (pv 9) (pa_cons (pv 11) pa_nil))) (pe_one (pe_call G__law_is_covered (hr.mono (by first | decide | omega)) rfl T.g__law_is_covered k__law_is_covered b__law_is_covered .nil pass0 (pa_cons (pv 11) (pa_cons (pv 9) pa_nil))))) (nomark _)) (pss_one (ps_ret pe_bl)) pss_nil))))))))
    (pss_one (ps_ret pe_bl)))))))), ?_⟩
  obtain ⟨ps, gL, hp⟩ := id hR
  have lp := paired_len hp
  have f8 := h8.1
  have ll : (ps.map V.ref).length = rs.length := by rw [List.length_map, lp]
  refine ⟨_, rfl, _, rfl, L, _, rfl, .inl (SqL.of gL), a, n, _, rfl, hw, by omega, by omega, by omega, fun at_ u n1 r0 r1 hn1 hu1 => ?_⟩
  rw [ll] at r1
  obtain ⟨m, rfl⟩ := Int.eq_ofNat_of_zero_le r0
  have K1 : Keep a H (upd H a u) := Keep.at_
  have w1 := well_upd (H := H) (a := a) hu1
  have R1 := rows_keep hw K1 nL hR
  generalize upd H a u = H1 at K1 w1 R1 ⊢
  refine ⟨smallN (by show 0 ≤ 1000; decide), fun F qF => ⟨_, _, rfl, ?_⟩⟩
  have S2 := Same.new (u := .lst []) qF
  have gF : (upd H1 F (.lst [])) F = some (.lst (([] : List Addr).map V.ref)) := upd_same
  have nF : F ≠ a := well_ne3 w1 qF
  have w2 := well_new (u := .lst []) w1 qF
  generalize upd H1 F (.lst []) = H2 at S2 gF w2 ⊢
  have R2 := rows_same S2 R1
  obtain ⟨p2, gL2, hp2⟩ := id R2
  have lp2 := paired_len hp2
  have nLF : L ≠ F := by
    obtain ⟨_, g, _⟩ := R1
    exact ne_of_none g qF
  refine ⟨_, rfl, L, rfl, ⟨_, SqL.of gL2⟩, for_list (K := K) (a := L) (xs := p2.map V.ref) (fun i σ H' => ∃ (v4 v5 v6 : Option V), σ = [some (.ref a), some (.ref L), some (.int m), some (.ref F), v4, v5, v6, none, none, none, none, none, none] ∧ Keep F H2 H' ∧ RowsAt H' F ((rs.take i).map askR))
    ⟨_, _, _, rfl, Keep.refl _ _, [], gF, .nil⟩ (fun i σ H' _ ⟨_, _, _, _, kp, _⟩ => SqL.of (kp _ _ nLF gL2)) ?_ ?_⟩
  · rintro i x σ H3 hx ⟨v4, v5, v6, rfl, K3, RF⟩
    rw [List.getElem?_map] at hx
    obtain ⟨p, ep, rfl⟩ := Option.map_eq_some_iff.mp hx
    obtain ⟨r, er, hr2⟩ := paired_at hp2 ep
    have hr3 : RowAt H3 p r := K3 _ _ (ne_of hr2 gF fun z => by cases z) hr2
    refine ⟨p, _, rfl, SqT.of hr3, rfl, _, _, rfl, _, _, rfl, _, _, rfl, rfl, ?_⟩
    obtain ⟨pF, gF3, hpF⟩ := id RF
    have lF := paired_len hpF
    rw [List.length_map, List.length_take] at lF
    refine ⟨_, rfl, .inl ⟨rfl, _, SqL.of gF3⟩, ?_⟩
    have put : ∀ (q : Addr) (H4 : Hp), Same H3 H4 → RowAt H4 q (askR r) → ∃ l xs y, V.ref F = .ref l ∧ [V.ref q] = [y] ∧ H4 l = some (.lst xs) ∧ xs.length < sizeLine ∧ ∃ (y4 y5 y6 : Option V), [some (V.ref a), some (.ref L), some (.int m), some (.ref F), some (.str r.nm), some (.str (vT r.vb)), some (.str r.vl), none, none, none, none, none, none] = [some (.ref a), some (.ref L), some (.int m), some (.ref F), y4, y5, y6, none, none, none, none, none, none] ∧ Keep F H2 (upd H4 l (.lst (xs ++ [y]))) ∧ RowsAt (upd H4 l (.lst (xs ++ [y]))) F ((rs.take (i + 1)).map askR) := by
      intro q H4 S4 hq
      have RF4 := rows_same S4 RF
      have gF4 := S4 _ _ gF3
      refine ⟨F, _, _, rfl, rfl, gF4, small1000 (by rw [List.length_map]; omega), _, _, _, rfl, fun b o nb hb => ?_, ?_⟩
      · rw [upd_ne nb]; exact S4 _ _ (K3 _ _ nb hb)
      · rw [get_take er, List.map_append]
        exact rows_push RF4 gF4 hq
    refine ⟨_, rfl, rfl, _, rfl, ?_⟩
    refine iteE (b := decide (r.vb = .there)) (decide_eq_decide.mpr ⟨fun z => vT_inj (b := .there) (by injection z), fun z => by rw [z]; rfl⟩) (fun e => ?_) (fun e => ?_)
    · refine ⟨_, rfl, smallN (by show 3 ≤ 1000; decide), fun q qq => put q _ (Same.new qq) ?_⟩
      unfold askR
      rw [if_pos (of_decide_eq_true e)]
      exact upd_same
    · refine ⟨_, rfl, _, rfl, _, rfl, smallN (by show 3 ≤ 1000; decide), fun q qq => put q _ (Same.new qq) ?_⟩
      unfold askR
      rw [if_neg (of_decide_eq_false e)]
      exact upd_same
  rintro σ H3 ⟨v4, v5, v6, rfl, K3, RF⟩
  rw [List.length_map, lp2, List.take_length] at RF
  have w3 : WellAt H3 a n1 := have ⟨v, hv, o⟩ := w2; ⟨v, K3 _ _ nF.symm hv, o⟩
  have R3 : RowsAt H3 L rs := ⟨p2, K3 _ _ nLF gL2, Paired.mono (fun p r q => K3 _ _ (ne_of q gF fun z => by cases z) q) hp2⟩
  have KA : Keep a H H3 := fun b o nb hb => by
    have h2 := S2 _ _ (K1 _ _ nb hb)
    exact K3 _ _ (fun z => by rw [z] at hb; have := K1 _ _ nF hb; rw [qF] at this; cases this) h2
  clear K1 K3 w1 w2 R1 R2 S2 hp2 gL2 lp2 gF
  obtain ⟨q3, gL3, hp3⟩ := id R3
  have l3 := paired_len hp3
  -- the list of lists of rows
  refine ⟨_, rfl, _, rfl, L, _, rfl, SqL.of gL3, fun p4 q4 => ?_⟩
  have S4 := Same.new (u := .lst (q3.map V.ref).reverse) q4
  have R4 : RowsAt (upd H3 p4 (.lst (q3.map V.ref).reverse)) p4 rs.reverse := ⟨q3.reverse, by rw [upd_same, List.map_reverse], Paired.mono (fun _ _ q => S4 _ _ q) (paired_rev hp3)⟩
  have n4 : p4 ≠ a := well_ne3 w3 q4
  generalize upd H3 p4 (.lst (q3.map V.ref).reverse) = H4 at S4 R4 ⊢
  refine ⟨_, rfl, _, rfl, _, rfl, _, rfl, L, _, rfl, SqL.of (S4 _ _ gL3), fun p5 q5 => ?_⟩
  rw [cut_take, ← List.map_take]
  have S5 := Same.new (u := .lst ((q3.take m).map V.ref)) q5
  have g5 : (upd H4 p5 (.lst ((q3.take m).map V.ref))) p5 = _ := upd_same
  generalize upd H4 p5 (.lst ((q3.take m).map V.ref)) = H5 at S5 g5 ⊢
  have S35 := S4.trans S5
  refine ⟨_, rfl, _, rfl, _, _, rfl, rfl, _, rfl, L, _, rfl, SqL.of (S35 _ _ gL3), fun p6 q6 => ?_⟩
  rw [cut_dropI _ (by omega), ← List.map_drop]
  have em : ((m : Int) + 1).toNat = m + 1 := by omega
  rw [em]
  have S6 := Same.new (u := .lst ((q3.drop (m + 1)).map V.ref)) q6
  have g6 : (upd H5 p6 (.lst ((q3.drop (m + 1)).map V.ref))) p6 = _ := upd_same
  generalize upd H5 p6 (.lst ((q3.drop (m + 1)).map V.ref)) = H6 at S6 g6 ⊢
  have S36 := S35.trans S6
  refine ⟨p5, p6, _, _, rfl, rfl, S6 _ _ g5, g6, smallN (by rw [List.length_map, List.length_map, List.length_take, List.length_drop]; omega), fun p7 q7 => ?_⟩
  have R7 := rows_cat (L1 := p5) (L2 := p6) (pr_same S36 (paired_take m hp3)) (pr_same S36 (paired_drop (m + 1) hp3)) q7
  have S7 := Same.new (u := .lst ((q3.take m).map V.ref ++ (q3.drop (m + 1)).map V.ref)) q7
  have w6 : WellAt H6 a n1 := have ⟨v, hv, o⟩ := w3; ⟨v, S36 _ _ hv, o⟩
  have n7 : p7 ≠ a := well_ne3 w6 q7
  generalize upd H6 p7 (.lst ((q3.take m).map V.ref ++ (q3.drop (m + 1)).map V.ref)) = H7 at S7 R7 ⊢
  have S37 := S36.trans S7
  have w7 : WellAt H7 a n1 := have ⟨v, hv, o⟩ := w3; ⟨v, S37 _ _ hv, o⟩
  refine ⟨smallN (by show 4 ≤ 1000; decide), fun S8 q8 => ?_⟩
  have Se := Same.new (u := .lst ([L, p4, F, p7].map V.ref)) q8
  have g8 : (upd H7 S8 (.lst ([L, p4, F, p7].map V.ref))) S8 = _ := upd_same
  have n8 : S8 ≠ a := well_ne3 w7 q8
  have w8 := well_new (u := .lst ([L, p4, F, p7].map V.ref)) w7 q8
  show tSeq _ _ _ _ (upd H7 S8 (.lst ([L, p4, F, p7].map V.ref)))
  have fS : H S8 = none := by
    cases e : H S8 with
    | none => rfl
    | some o => rw [S37 _ _ (KA _ _ n8 e)] at q8; cases q8
  generalize upd H7 S8 (.lst ([L, p4, F, p7].map V.ref)) = H8 at Se g8 w8 ⊢
  have S38 := S37.trans Se
  have RL8 := rows_same S38 R3
  have R48 := rows_same (S5.trans (S6.trans (S7.trans Se))) R4
  have RF8 := rows_same S38 RF
  have R78 := rows_same Se R7
  obtain ⟨z8, gz8, hz8⟩ := id RL8
  have lz8 := paired_len hz8
  -- the fifth
  refine ⟨_, rfl, .inl ⟨rfl, _, SqL.of g8⟩, ?_⟩
  refine ⟨_, rfl, _, rfl, L, _, rfl, SqL.of gz8, fun p9 q9 => ?_⟩
  rw [cut_takeI _ (by decide), ← List.map_take]
  show tLst _ _ (upd H8 p9 (.lst ((z8.take 7).map V.ref))) _
  have S9 := Same.new (u := .lst ((z8.take 7).map V.ref)) q9
  have g9 : (upd H8 p9 (.lst ((z8.take 7).map V.ref))) p9 = _ := upd_same
  have n9 : p9 ≠ a := well_ne3 w8 q9
  have w9 := well_new (u := .lst ((z8.take 7).map V.ref)) w8 q9
  generalize upd H8 p9 (.lst ((z8.take 7).map V.ref)) = H9 at S9 g9 w9 ⊢
  have R9 : RowsAt H9 p9 (rs.take 7) := ⟨_, g9, Paired.mono (fun _ _ q => S9 _ _ q) (paired_take 7 hz8)⟩
  refine ⟨_, rfl, smallN (by show 5 ≤ 1000; decide), fun pn qn => ?_⟩
  refine ⟨a, pn, n1, ["a", "f", "g", "i", "k"], rfl, well_new w9 qn, by omega, upd_same, well_ne3 w9 qn, names_five, fun pr rr Ha na hra rA Ka wa hna => ?_⟩
  have wn := well_new (u := .lst ([V.str "a", V.str "f", V.str "g", V.str "i", V.str "k"])) w9 qn
  have Sn := Same.new (u := .lst ([V.str "a", V.str "f", V.str "g", V.str "i", V.str "k"])) qn
  have mv : ∀ {M : Addr} {l : List Row}, M ≠ a → RowsAt H8 M l → RowsAt Ha M l := fun nM h => rows_keep wn Ka nM (rows_same (S9.trans Sn) h)
  have RLa := mv nL RL8
  have R4a := mv n4 R48
  have RFa := mv nF RF8
  have R7a := mv n7 R78
  have R9a := rows_keep wn Ka n9 (rows_same Sn R9)
  have gSa := Ka _ _ n8 (Sn _ _ (S9 _ _ g8))
  have K8a : Keep a H8 Ha := (Keep.of (S9.trans Sn)).trans Ka
  refine ⟨smallN (by show 1 ≤ 1000; decide), fun pb qb => ?_⟩
  have Sb := Same.new (u := .lst ([pr].map V.ref)) qb
  have gb : (upd Ha pb (.lst ([pr].map V.ref))) pb = _ := upd_same
  have wb := well_new (u := .lst ([pr].map V.ref)) wa qb
  show rCat (.ref p9) (.ref pb) (upd Ha pb (.lst ([pr].map V.ref))) _
  generalize upd Ha pb (.lst ([pr].map V.ref)) = Hb at Sb gb wb ⊢
  obtain ⟨z9, gz9, hz9⟩ := rows_same Sb R9a
  have lz9 := paired_len hz9
  rw [List.length_take] at lz9
  refine ⟨p9, pb, _, _, rfl, rfl, gz9, gb, smallN (by rw [List.length_map]; show _ + 1 ≤ 1000; omega), fun pc qc => ?_⟩
  have Rc := rows_cat (L1 := p9) (L2 := pb) hz9 (.cons (Sb _ _ rA : RowAt Hb pr rr) .nil) qc
  have Sc := Same.new (u := .lst (z9.map V.ref ++ [pr].map V.ref)) qc
  have nc : pc ≠ a := well_ne3 wb qc
  have wc := well_new (u := .lst (z9.map V.ref ++ [pr].map V.ref)) wb qc
  have ncS : pc ≠ S8 := fun z => by rw [z, Sb _ _ gSa] at qc; cases qc
  generalize upd Hb pc (.lst (z9.map V.ref ++ [pr].map V.ref)) = Hc at Sc Rc wc ⊢
  have Sac := Sb.trans Sc
  refine ⟨S8, _, _, rfl, rfl, Sac _ _ gSa, small1000 (by show 4 ≤ 1000; decide), ?_⟩
  have keepS : ∀ {M : Addr} {l : List Row}, M ≠ S8 → RowsAt Hc M l → RowsAt (upd Hc S8 (.lst ([L, p4, F, p7].map V.ref ++ [V.ref pc]))) M l := fun {M l} nM ⟨ms, gm, hm⟩ =>
    ⟨ms, by rw [upd_ne nM]; exact gm, Paired.mono (fun b q hq => by unfold RowAt at hq ⊢; rw [upd_ne (ne_of hq (Sac _ _ gSa) fun z => by cases z)]; exact hq) hm⟩
  have old : ∀ {M : Addr} {o : HO}, H7 M = some o → M ≠ S8 := fun h => ne_of_none h q8
  have SomeD : SomeAt (upd Hc S8 (.lst ([L, p4, F, p7].map V.ref ++ [V.ref pc]))) S8 [rs, rs.reverse, rs.map askR, rs.take m ++ rs.drop (m + 1), rs.take 7 ++ [rr]] := by
    refine ⟨[L, p4, F, p7, pc], upd_same, .cons (keepS ?_ (rows_same Sac RLa)) (.cons (keepS ?_ (rows_same Sac R4a)) (.cons (keepS ?_ (rows_same Sac RFa)) (.cons (keepS ?_ (rows_same Sac R7a)) (.cons (keepS ncS Rc) .nil))))⟩
    · obtain ⟨_, g, _⟩ := rows_same S37 R3; exact old g
    · obtain ⟨_, g, _⟩ := rows_same (S5.trans (S6.trans S7)) R4; exact old g
    · obtain ⟨_, g, _⟩ := rows_same S37 RF; exact old g
    · obtain ⟨_, g, _⟩ := R7; exact old g
  have wd : WellAt (upd Hc S8 (.lst ([L, p4, F, p7].map V.ref ++ [V.ref pc]))) a na := have ⟨v, hv, o⟩ := wc; ⟨v, by rw [upd_ne n8.symm]; exact hv, o⟩
  have Kd : Keep a H (upd Hc S8 (.lst ([L, p4, F, p7].map V.ref ++ [V.ref pc]))) := fun b o nb hb => by
    rw [upd_ne (fun z => by rw [z, fS] at hb; cases hb)]
    exact Sac _ _ (K8a _ _ nb (S38 _ _ (KA _ _ nb hb)))
  have all5 : ∀ l ∈ [rs, rs.reverse, rs.map askR, rs.take m ++ rs.drop (m + 1), rs.take 7 ++ [rr]], Rows8 l := by
    intro l hl
    simp only [List.mem_cons, List.not_mem_nil, or_false] at hl
    rcases hl with rfl | rfl | rfl | rfl | rfl
    · exact h8
    · exact ⟨by rw [List.length_reverse]; exact f8, fun r hr0 => h8.2 r (List.mem_reverse.mp hr0)⟩
    · refine ⟨by rw [List.length_map]; exact f8, fun r hr0 => ?_⟩
      obtain ⟨q, hq, rfl⟩ := List.mem_map.mp hr0
      exact ask_mem (h8.2 q hq)
    · refine ⟨by rw [List.length_append, List.length_take, List.length_drop]; omega, fun r hr0 => ?_⟩
      rcases List.mem_append.mp hr0 with hr0 | hr0
      · exact h8.2 r (List.mem_of_mem_take hr0)
      · exact h8.2 r (List.mem_of_mem_drop hr0)
    · refine ⟨by rw [List.length_append, List.length_take]; show _ + 1 ≤ 8; omega, fun r hr0 => ?_⟩
      rcases List.mem_append.mp hr0 with hr0 | hr0
      · exact h8.2 r (List.mem_of_mem_take hr0)
      · rw [List.mem_singleton.mp hr0]; exact hra.1
  generalize upd Hc S8 (.lst ([L, p4, F, p7].map V.ref ++ [V.ref pc])) = Hd at SomeD wd Kd ⊢
  have hlen5 : ∀ {k : Nat}, k = [rs, rs.reverse, rs.map askR, rs.take m ++ rs.drop (m + 1), rs.take 7 ++ [rr]].length → k ≤ 100000 := fun e => by rw [e]; show 5 ≤ 100000; decide
  generalize [rs, rs.reverse, rs.map askR, rs.take m ++ rs.drop (m + 1), rs.take 7 ++ [rr]] = rss at SomeD all5 hlen5
  obtain ⟨ss, gS, hss⟩ := id SomeD
  have lss := paired_len hss
  refine ⟨_, rfl, S8, rfl, ⟨_, SqL.of gS⟩, fun D hD => ?_⟩
  obtain ⟨as, e1, e2, e3⟩ := paired_zip hss
  have gS' : Hd S8 = some (.lst (as.map fun a => V.ref a.1)) := by rw [gS, ← e1, List.map_map]; rfl
  refine lc_sel as (fun a => V.ref a.1) (fun a => normV a.2) (fun _ => true) gS' ?_ hD ?_ ?_
  · have : as.length = ss.length := by rw [← e1, List.length_map]
    have : ss.length ≤ 100000 := hlen5 lss
    omega
  · intro z hz H' Y N S' kk
    have h8z := all5 z.2 (by rw [← e2]; exact List.mem_map_of_mem hz)
    exact ⟨rfl, yes_ (iteT ⟨_, rfl, z.1, z.2, rfl, rows_same S' (e3 z hz), h8z, fun H2 S2 => ⟨z.2, rfl, h8z, fun H3 S3 => (kk H3 (S2.trans S3)).1 rfl⟩⟩)⟩
  intro He Se' gT
  have gT : He D = some (.lst (rss.map normV)) := by rw [gT, keep_all, ← e2, List.map_map]; rfl
  have SomeE := some_same Se' SomeD
  obtain ⟨se, gSe, hse⟩ := id SomeE
  have lse := paired_len hse
  refine ⟨_, rfl, _, rfl, S8, D, _, _, rfl, SqL.of gSe, SqL.of gT, RZ.for_zipL (K := K) (a := S8) (b := D) (xs := se.map V.ref) (ys := rss.map normV) (by rw [List.length_map, List.length_map, lse]) (fun i σ H' => ∃ (y9 y10 y11 y12 : Option V), σ = [some (.ref a), some (.ref L), some (.int m), some (.ref F), v4, v5, v6, some (.ref S8), some (.ref D), y9, y10, y11, y12] ∧ Same He H')
    ⟨_, _, _, _, rfl, Same.refl _⟩ (fun i σ H' ⟨_, _, _, _, _, s⟩ => ⟨SqL.of (s _ _ gSe), SqL.of (s _ _ gT)⟩) ?_ (fun σ H' ⟨_, _, _, _, e, s⟩ => by
      subst e
      exact k H' na (Kd.trans (Keep.of (Se'.trans s))) (have ⟨v, hv, o⟩ := wd; ⟨v, s _ _ (Se' _ _ hv), o⟩) (by omega))⟩
  rintro i x y Tp σ Hf hx hy ⟨y9, y10, y11, y12, rfl, Sf⟩ hTp
  rw [List.getElem?_map] at hx hy
  obtain ⟨p, ep, rfl⟩ := Option.map_eq_some_iff.mp hx
  obtain ⟨q, eq, rfl⟩ := Option.map_eq_some_iff.mp hy
  obtain ⟨q', eq', hq⟩ := paired_at hse ep
  rw [eq] at eq'
  cases eq'
  have h2 := all5 q (mem_at eq)
  refine ⟨Tp, _, rfl, SqT.of upd_same, rfl, _, _, rfl, _, _, rfl, rfl, ?_⟩
  have Sg := Sf.trans (Same.new (u := .tup [V.ref p, normV q]) hTp)
  generalize upd Hf Tp (.tup [V.ref p, normV q]) = Hg at Sg ⊢
  refine nr_pos (rows_same Sg hq) h2 fun H5 S5 => ?_
  refine nr_cov1 (rows_same (Sg.trans S5) hq) h2 fun H6 S6 => ?_
  refine nr_cov2 (rows_same (Sg.trans (S5.trans S6)) hq) h2 fun H7 S7 => ?_
  have S57 := Sg.trans (S5.trans (S6.trans S7))
  exact nr_inner (some_same S57 SomeE) (S57 _ _ gT) all5 (rows_same S57 hq) h2 fun y11 y12 H8 S8' => ⟨_, _, _, _, rfl, S57.trans S8'⟩

theorem rows8_of {rs : List Row} (l : rs.length ≤ 8) (h : ∀ r ∈ rs, r ∈ allRows) : Rows8 rs := ⟨l, h⟩
section
variable {K : PySem.W.Frag} {E : Ends} {C : TS} {H : Hp} {pd L1 L2 : Addr} {one other : List Row} {x0 x2 x3 x4 x5 x8 x9 x10 x11 x12 x13 : Option V}
theorem law_meets (h1 : Rows8 one) (h2 : Rows8 other) (hR1 : RowsAt H L1 one) (hR2 : RowsAt H L2 other)
    (k : ∀ v H', Same H H' → C E [x0, some (.ref pd), x2, x3, x4, x5, some (.ref L1), some (.ref L2), some v, x9, x10, x11, x12, x13] H') :
    tSeq (tAsg (tCall (sp_meets K) [] E0 (tCons (tCall (sp__law_text K) [] E0 (tCons (tVar 6) tNil)) (tCons (tCall (sp__law_text K) [] E0 (tCons (tVar 7) tNil)) tNil))) (gName 8))
      (tSeq (tIfS (tTest (tOp rNe (tOp (fun x y H Q => y = V.non ∧ Q (V.bl !decide (x = V.non)) H) (tVar 8) (tC V.non)) (tCall (sp__law_is_possible K) [] E0 (tCons (tOp rCat (tVar 6) (tVar 7)) tNil)))) (tRet (tC (V.bl false))) tNext)
        (tSeq (tIfS (tAnd (tTest (tOp (fun x y H Q => y = V.non ∧ Q (V.bl !decide (x = V.non)) H) (tVar 8) (tC V.non))) (tOr (tNot (tB (tCall (sp_is_labels K) [] E0 (tCons (tVar 8) tNil)))) (tNot (tB (tCall (sp__law_fulfils K) [] E0 (tCons (tOp rCat (tVar 6) (tVar 7)) (tCons (tVar 8) tNil))))))) (tRet (tC (V.bl false))) tNext) C)) E
      [x0, some (.ref pd), x2, x3, x4, x5, some (.ref L1), some (.ref L2), x8, x9, x10, x11, x12, x13] H := by
  have f1 := h1.1
  have f2 := h2.1
  have l12 : (one ++ other).length ≤ 16 := by rw [List.length_append]; omega
  have all12 : ∀ r ∈ one ++ other, r ∈ allRows := fun r hr => (List.mem_append.mp hr).elim (h1.2 r) (h2.2 r)
  refine ⟨_, rfl, L1, one, rfl, hR1, h1, fun H1 S1 => ⟨_, rfl, L2, other, rfl, rows_same S1 hR2, h2, fun H2 S2 => ?_⟩⟩
  have S02 := S1.trans S2
  refine ⟨one, other, rfl, h1, h2, fun nob H3 S3 => ?_, fun bs p H3 isb need S3 _ gp => ?_⟩
  · have S03 := S02.trans S3
    obtain ⟨p1, g1, q1⟩ := rows_same S03 hR1
    obtain ⟨p2, g2, q2⟩ := rows_same S03 hR2
    have e1 := paired_len q1
    have e2 := paired_len q2
    refine ⟨_, rfl, rfl, _, rfl, _, rfl, L1, L2, _, _, rfl, rfl, g1, g2, smallN (by rw [List.length_map, List.length_map]; omega), fun pc qc => ?_⟩
    refine ⟨pc, one ++ other, rfl, rows_cat (L1 := L1) (L2 := L2) q1 q2 qc, by omega, all12, fun H4 S4 => ⟨rfl, _, rfl, ?_⟩⟩
    rw [noB_iff.mp nob]
    exact iteF ⟨_, rfl, rfl, _, rfl, iteF (iteF (k _ _ (S03.trans ((Same.new qc).trans S4))))⟩
  · have S03 := S02.trans S3
    obtain ⟨p1, g1, q1⟩ := rows_same S03 hR1
    obtain ⟨p2, g2, q2⟩ := rows_same S03 hR2
    have e1 := paired_len q1
    have e2 := paired_len q2
    refine ⟨_, rfl, rfl, _, rfl, _, rfl, L1, L2, _, _, rfl, rfl, g1, g2, smallN (by rw [List.length_map, List.length_map]; omega), fun pc qc => ?_⟩
    refine ⟨pc, one ++ other, rfl, rows_cat (L1 := L1) (L2 := L2) q1 q2 qc, by omega, all12, fun H4 S4 => ⟨rfl, _, rfl, ?_⟩⟩
    rw [pos_of isb need]
    have S34 := (Same.new (u := .lst (p1.map V.ref ++ p2.map V.ref)) qc).trans S4
    refine iteF ⟨_, rfl, rfl, _, rfl, iteT ⟨_, rfl, p, labelsF bs, rfl, S34 _ _ gp, labels_ok isb (by omega) need fun r hr => rowN_of (all12 r hr), fun H5 S5 => ⟨_, rfl, ?_⟩⟩⟩
    have S35 := S34.trans S5
    refine iteF ⟨_, rfl, _, rfl, L1, L2, _, _, rfl, rfl, S35 _ _ g1, S35 _ _ g2, smallN (by rw [List.length_map, List.length_map]; omega), fun pe qe => ?_⟩
    refine ⟨_, rfl, pe, p, one ++ other, labelsF bs, rfl, rows_cat (L1 := L1) (L2 := L2) (pr_same S35 q1) (pr_same S35 q2) qe, Same.new qe _ _ (S35 _ _ gp), _, rfl, ?_⟩
    rw [labels_ful isb (by omega)]
    exact iteF (k _ _ (S03.trans (S35.trans (Same.new qe))))
theorem law_covers (h1 : Rows8 one) (h2 : Rows8 other) (hR1 : RowsAt H L1 one) (hR2 : RowsAt H L2 other) (gd : H pd = some (.dK (mergeK [] opps)))
    (k : ∀ y9 y10 y12 H', Same H H' → E.nx [x0, some (.ref pd), x2, x3, x4, x5, some (.ref L1), some (.ref L2), x8, y9, y10, x11, y12, x13] H') :
    tSeq (tAsg (tLc (iList K (tVar 6)) (gName 12) (tB (tCall (sp__law_is_possible K) [] E0 (tCons (tOp rCat (tVar 7) (tLst (tCons (tTup (tCons (tOp (rIxT K) (tVar 12) (tC (V.int 0))) (tCons (tDGet (tVar 1) (tOp (rIxT K) (tVar 12) (tC (V.int 1)))) (tCons (tOp (rIxT K) (tVar 12) (tC (V.int 2))) tNil)))) tNil))) tNil))) (tVar 12) [12]) (gName 9))
      (tSeq (tAsg (tCall (sp_covers K) [] E0 (tCons (tCall (sp__law_text K) [] E0 (tCons (tVar 6) tNil)) (tCons (tCall (sp__law_text K) [] E0 (tCons (tVar 7) tNil)) tNil))) (gName 10))
      (tSeq (tIfS (tTest (tOp rNe (tOp (fun x y H Q => y = V.non ∧ Q (V.bl (decide (x = V.non))) H) (tVar 10) (tC V.non)) (tOp (rEqNil K) (tVar 9) (tLst tNil)))) (tRet (tC (V.bl false))) tNext)
      (tSeq (tIfS (tAnd (tTest (tOp (fun x y H Q => y = V.non ∧ Q (V.bl !decide (x = V.non)) H) (tVar 10) (tC V.non))) (tOr (tNot (tB (tCall (sp_is_labels K) [] E0 (tCons (tVar 10) tNil)))) (tNot (tB (tCall (sp__law_fulfils K) [] E0 (tCons (tVar 7) (tCons (tVar 10) tNil))))))) (tRet (tC (V.bl false))) tNext)
        (tIfS (tAnd (tTest (tOp (fun x y H Q => y = V.non ∧ Q (V.bl !decide (x = V.non)) H) (tVar 10) (tC V.non))) (tTest (tOp rNotB (tCall (sp_matches K) [] E0 (tCons (tCall (sp__law_text K) [] E0 (tCons (tVar 6) tNil)) (tCons (tVar 10) tNil))) (tC (V.bl false))))) (tRet (tC (V.bl false))) tNext)))) E
      [x0, some (.ref pd), x2, x3, x4, x5, some (.ref L1), some (.ref L2), x8, x9, x10, x11, x12, x13] H := by
  have f1 := h1.1
  have f2 := h2.1
  refine ⟨_, rfl, L1, rfl, rows_sq hR1, fun D hD => ?_⟩
  refine lc_rows (fun r => posB (other ++ [oppR r])) hR1 (by omega) hD ?_ ?_
  · intro p r hm hr0 H' Y N S' kk
    refine ⟨rfl, cov_test (b := 7) (d := 1) (v := 12) rfl rfl rfl (rows_same S' hR2) (by omega) h2.2 (S' _ _ gd) (S' _ _ hr0) (h1.2 r hm) fun H2 S2 => ?_⟩
    exact iteE rfl (fun e => ⟨_, rfl, (kk _ S2).1 e⟩) (fun e => (kk _ S2).2 e)
  intro H1 S1 RF
  obtain ⟨fs, gF, hF⟩ := RF
  have ef : (fs.map V.ref).isEmpty = covB one other := by
    rw [List.isEmpty_map, ← cov_empty]
    exact len_empty (paired_len hF)
  refine ⟨_, rfl, L1, one, rfl, rows_same S1 hR1, h1, fun H2 S2 => ⟨_, rfl, L2, other, rfl, rows_same (S1.trans S2) hR2, h2, fun H3 S3 => ?_⟩⟩
  have S13 := S2.trans S3
  refine ⟨one, other, rfl, h1, h2, fun nob H4 S4 => ?_, fun r bs p H4 hr isb need S4 _ gp => ?_⟩
  · have S14 := S13.trans S4
    refine ⟨_, rfl, rfl, _, rfl, smallN (by show 0 ≤ 1000; decide), fun pe qe => ⟨D, pe, _, rfl, rfl, SqL.of (Same.new qe _ _ (S14 _ _ gF)), SqL.of upd_same, rfl, _, rfl, ?_⟩⟩
    rw [ef, cov_of_no nob]
    exact iteF ⟨_, rfl, rfl, _, rfl, iteF (iteF ⟨_, rfl, rfl, _, rfl, iteF (iteF (k _ _ _ _ (S1.trans (S14.trans (Same.new qe)))))⟩)⟩
  · have S14 := S13.trans S4
    have all : ∀ q ∈ other ++ [oppR r], q ∈ allRows := pos_app h2.2 (h1.2 r hr)
    have len : (other ++ [oppR r]).length ≤ 9 := by rw [List.length_append]; show _ + 1 ≤ 9; omega
    have ful := labels_ful isb (by omega)
    rw [fulAll_app, Bool.and_eq_true_iff] at ful
    have lok := labels_ok isb (by omega) need fun q hq => rowN_of (all q hq)
    refine ⟨_, rfl, rfl, _, rfl, smallN (by show 0 ≤ 1000; decide), fun pe qe => ⟨D, pe, _, rfl, rfl, SqL.of (Same.new qe _ _ (S14 _ _ gF)), SqL.of upd_same, rfl, _, rfl, ?_⟩⟩
    have S15 := S14.trans (Same.new (u := .lst []) qe)
    have gp5 := Same.new (u := .lst []) qe _ _ gp
    generalize upd H4 pe (.lst []) = H5 at S15 gp5 ⊢
    rw [ef, cov_yes hr isb need]
    refine iteF ⟨_, rfl, rfl, _, rfl, iteT ⟨_, rfl, p, labelsF bs, rfl, gp5, lok, fun H6 S6 => ⟨_, rfl, ?_⟩⟩⟩
    refine iteF ⟨_, rfl, _, rfl, L2, p, other, labelsF bs, rfl, rows_same (S1.trans (S15.trans S6)) hR2, S6 _ _ gp5, _, rfl, ?_⟩
    rw [ful.1]
    refine iteF ⟨_, rfl, rfl, _, rfl, iteT ⟨_, rfl, L1, one, rfl, rows_same (S1.trans (S15.trans S6)) hR1, h1, fun H7 S7 => ⟨_, rfl, p, one, labelsF bs, rfl, h1, S7 _ _ (S6 _ _ gp5), lok, fun H8 S8 => ?_⟩⟩⟩
    rw [not_ful.mpr ⟨r, hr, ful.2⟩]
    exact ⟨_, _, rfl, rfl, _, rfl, iteF (k _ _ _ _ (S1.trans (S15.trans (S6.trans (S7.trans S8)))))⟩
def zqR : List Row := [⟨"zz", .missing, ""⟩, ⟨"q", .not, "web"⟩]
def zzR : List Row := [⟨"zz", .there, ""⟩]
theorem zq_text : selT zqR = "!zz,q!=web" := by decide +kernel
theorem zz_text : selT zzR = "zz" := by decide +kernel
theorem zq_rows : Rows8 zqR := ⟨by decide, by decide +kernel⟩
theorem zz_rows : Rows8 zzR := ⟨by decide, by decide +kernel⟩
theorem law_full {LF : Addr} {fl : List Row} {x1 x6 x7 : Option V} (h8 : Rows8 fl) (hR : RowsAt H LF fl) (nz : ∀ r ∈ fl, r.nm ≠ "zz" ∧ r.nm ≠ "q") (k : ∀ H', Same H H' → E.nx [x0, x1, x2, x3, x4, x5, x6, x7, x8, x9, x10, some (.ref LF), x12, x13] H') :
    tIfS (tAnd (tB (tCall (sp__law_is_possible K) [] E0 (tCons (tVar 11) tNil))) (tTest (tOp rEq (tCB (fun xs H_1 Q => ∃ p ys, xs = [V.ref p] ∧ (SqL K H_1 p ys ∨ SqT K H_1 p ys) ∧ Q (V.int ↑ys.length) H_1) (tCons (tCall (sp__law_needed K) [] E0 (tCons (tVar 11) tNil)) tNil)) (tC (V.int 8)))))
      (tSeq (tIfS (tOr (tTest (tOp (fun x y H Q => y = V.non ∧ Q (V.bl !decide (x = V.non)) H) (tCall (sp_covers K) [] E0 (tCons (tC (.str "!zz,q!=web")) (tCons (tCall (sp__law_text K) [] E0 (tCons (tVar 11) tNil)) tNil))) (tC V.non)))
          (tTest (tOp (fun x y H Q => y = V.non ∧ Q (V.bl !decide (x = V.non)) H) (tCall (sp_meets K) [] E0 (tCons (tCall (sp__law_text K) [] E0 (tCons (tVar 11) tNil)) (tCons (tC (.str "zz")) tNil))) (tC V.non)))) (tRet (tC (V.bl false))) tNext)
        (tIfS (tOr (tTest (tOp (fun x y H Q => y = V.non ∧ Q (V.bl (decide (x = V.non))) H) (tCall (sp_normal K) [] E0 (tCons (tCall (sp__law_text K) [] E0 (tCons (tVar 11) tNil)) tNil)) (tC V.non)))
          (tTest (tOp (fun x y H Q => y = V.non ∧ Q (V.bl !decide (x = V.non)) H) (tCall (sp_covers K) [] E0 (tCons (tCall (sp__law_text K) [] E0 (tCons (tVar 11) tNil)) (tCons (tCall (sp_normal K) [] E0 (tCons (tCall (sp__law_text K) [] E0 (tCons (tVar 11) tNil)) tNil)) tNil))) (tC V.non)))) (tRet (tC (V.bl false))) tNext)) tNext E
      [x0, x1, x2, x3, x4, x5, x6, x7, x8, x9, x10, some (.ref LF), x12, x13] H := by
  have f8 := h8.1
  refine ⟨_, rfl, LF, fl, rfl, hR, by omega, h8.2, fun H1 S1 => ⟨_, rfl, ?_⟩⟩
  cases pos : posB fl with
  | false => exact iteF (iteF (k H1 S1))
  | true =>
    have ok : okB fl = true := by rw [← pos8 f8]; exact pos
    refine iteT ⟨_, rfl, LF, fl, rfl, rows_same S1 hR, by omega, fun p H2 S2 g2 => ⟨p, _, rfl, .inl (SqL.of g2), rfl, _, rfl, ?_⟩⟩
    have S02 := S1.trans S2
    refine iteE (b := decide ((sortU (needNm fl)).length = 8)) (decide_eq_decide.mpr ⟨fun z => by injection z with z; rw [List.length_map] at z; omega, fun z => by rw [List.length_map, z]; rfl⟩) (fun e => ?_) (fun _ => k H2 S02)
    have need8 := of_decide_eq_true e
    have out : ∀ x : Str, x = "zz" ∨ x = "q" → x ∉ fl.map (·.nm) := fun x hx hm => by
      obtain ⟨r, hr, rfl⟩ := List.mem_map.mp hm
      rcases hx with hx | hx
      · exact (nz r hr).1 hx
      · exact (nz r hr).2 hx
    have cz : ∀ r ∈ zqR, posB (fl ++ [oppR r]) = false := fun r hr => by
      simp only [zqR, List.mem_cons, List.not_mem_nil, or_false] at hr
      rcases hr with rfl | rfl
      · exact pos_nine need8 rfl (out _ (.inl rfl))
      · exact pos_nine need8 rfl (out _ (.inr rfl))
    have mz : posB (fl ++ zzR) = false := pos_nine need8 rfl (out _ (.inl rfl))
    refine ⟨_, rfl, LF, fl, rfl, rows_same S02 hR, h8, fun H3 S3 => ⟨zqR, fl, by rw [zq_text]; rfl, zq_rows, h8, fun _ H4 S4 => ⟨rfl, _, rfl, iteF ?_⟩, fun r bs p H4 hr isb need _ _ _ => ?_⟩⟩
    · have S04 := S02.trans (S3.trans S4)
      refine ⟨_, rfl, LF, fl, rfl, rows_same S04 hR, h8, fun H5 S5 => ⟨fl, zzR, by rw [zz_text]; rfl, h8, zz_rows, fun _ H6 S6 => ⟨rfl, _, rfl, iteF ?_⟩, fun bs p H6 isb need _ _ _ => ?_⟩⟩
      · have S06 := S04.trans (S5.trans S6)
        refine ⟨_, rfl, LF, fl, rfl, rows_same S06 hR, h8, fun H7 S7 => ⟨fl, rfl, h8, fun H8 S8 => ?_⟩⟩
        rw [norm_ok ok]
        refine ⟨rfl, _, rfl, iteF ?_⟩
        have S08 := S06.trans (S7.trans S8)
        refine ⟨_, rfl, LF, fl, rfl, rows_same S08 hR, h8, fun H9 S9 => ⟨_, rfl, LF, fl, rfl, rows_same (S08.trans S9) hR, h8, fun Ha Sa => ⟨fl, rfl, h8, fun Hb Sb => ?_⟩⟩⟩
        rw [norm_ok ok]
        refine ⟨fl, _, rfl, h8, nrows8 (isB_of ok) h8, fun _ Hc Sc => ⟨rfl, _, rfl, iteF (k Hc (S08.trans (S9.trans (Sa.trans (Sb.trans Sc)))))⟩, fun r bs p Hc hr isb need _ _ _ => ?_⟩
        exact absurd (cov_norm h8 ok).2 (by rw [cov_yes hr isb need]; decide)
      · have := pos_of isb need
        rw [mz] at this
        cases this
    · have := pos_of isb need
      rw [cz r hr] at this
      cases this
end
theorem lm_fact : ∀ x ∈ (["l", "m"] : List Str), x ∈ names4 ∧ x ≠ "zz" ∧ x ≠ "q" := by decide +kernel
theorem n11_fact : ∀ x ∈ names11, x ≠ "zz" ∧ x ≠ "q" := by decide +kernel
def sp_law (K : PySem.W.Frag) : Sp := fun vs H Q _ => ∃ (a : Addr) (ns : List Int), vs = [.ref a] ∧ SqL K H a (ns.map V.int) ∧ ns.length ≤ 63 ∧ ∀ H', Q (.bl true) H'
theorem ok_law {P : Program} {w : World} {K : PySem.W.Frag} {mg : Str → Option Value} {base : Heap} {fd : FuncData} (T : Txt K mg w) (F : FnP K "law" s_law [] fd) : FnOk P w K mg base CX0 8 (He.ga K "law") fd ps_law (sp_law K) := by
  obtain ⟨fd__law_source, F__law_source⟩ := T.d__law_source
  have G__law_source := ok__law_source (P := P) (w := w) (base := base) T F__law_source
  have k__law_source := F__law_source.kp
  have b__law_source := bi__law_source F__law_source
  obtain ⟨fd__law_case, F__law_case⟩ := T.d__law_case
  have G__law_case := ok__law_case (P := P) (w := w) (base := base) T F__law_case
  have k__law_case := F__law_case.kp
  have b__law_case := bi__law_case F__law_case
  obtain ⟨fd__law_cell_at, F__law_cell_at⟩ := T.d__law_cell_at
  have G__law_cell_at := ok__law_cell_at (P := P) (w := w) (base := base) T F__law_cell_at
  have k__law_cell_at := F__law_cell_at.kp
  have b__law_cell_at := bi__law_cell_at F__law_cell_at
  obtain ⟨fd__law_normals_right, F__law_normals_right⟩ := T.d__law_normals_right
  have G__law_normals_right := ok__law_normals_right (P := P) (w := w) (base := base) T F__law_normals_right
  have k__law_normals_right := F__law_normals_right.kp
  have b__law_normals_right := bi__law_normals_right F__law_normals_right
  obtain ⟨fd_meets, F_meets⟩ := T.d_meets
  have G_meets := ok_meets (P := P) (w := w) (base := base) T F_meets
  have k_meets := F_meets.kp
  have b_meets := bi_meets F_meets
  obtain ⟨fd_covers, F_covers⟩ := T.d_covers
  have G_covers := ok_covers (P := P) (w := w) (base := base) T F_covers
  have k_covers := F_covers.kp
  have b_covers := bi_covers F_covers
  obtain ⟨fd__law_is_possible, F__law_is_possible⟩ := T.d__law_is_possible
  have G__law_is_possible := ok__law_is_possible (P := P) (w := w) (base := base) T F__law_is_possible
  have k__law_is_possible := F__law_is_possible.kp
  have b__law_is_possible := bi__law_is_possible F__law_is_possible
  obtain ⟨fd__law_text, F__law_text⟩ := T.d__law_text
  have G__law_text := ok__law_text (P := P) (w := w) (base := base) T F__law_text
  have k__law_text := F__law_text.kp
  have b__law_text := bi__law_text F__law_text
  obtain ⟨fd_matches, F_matches⟩ := T.d_matches
  have G_matches := ok_matches (P := P) (w := w) (base := base) T F_matches
  have k_matches := F_matches.kp
  have b_matches := bi_matches F_matches
  obtain ⟨fd__law_needed, F__law_needed⟩ := T.d__law_needed
  have G__law_needed := ok__law_needed (P := P) (w := w) (base := base) T F__law_needed
  have k__law_needed := F__law_needed.kp
  have b__law_needed := bi__law_needed F__law_needed
  obtain ⟨fd_normal, F_normal⟩ := T.d_normal
  have G_normal := ok_normal (P := P) (w := w) (base := base) T F_normal
  have k_normal := F_normal.kp
  have b_normal := bi_normal F_normal
  obtain ⟨fd_is_labels, F_is_labels⟩ := T.d_is_labels
  have G_is_labels := ok_is_labels (P := P) (w := w) (base := base) T F_is_labels
  have k_is_labels := F_is_labels.kp
  have b_is_labels := bi_is_labels F_is_labels
  obtain ⟨fd__law_fulfils, F__law_fulfils⟩ := T.d__law_fulfils
  have G__law_fulfils := ok__law_fulfils (P := P) (w := w) (base := base) T F__law_fulfils
  have k__law_fulfils := F__law_fulfils.kp
  have b__law_fulfils := bi__law_fulfils F__law_fulfils
  obtain ⟨fd__law_draw, F__law_draw⟩ := T.d__law_draw
  have G__law_draw := ok__law_draw (P := P) (w := w) (base := base) T F__law_draw
  have k__law_draw := F__law_draw.kp
  have b__law_draw := bi__law_draw F__law_draw
  refine F.ok sc_law (fun vs H Q E h => ?len) (fun cdv A outer s H vs Q E hr h => ?body)
  case len => obtain ⟨a, ns, rfl, hS, hlen, k⟩ := h; rfl
  case body =>
  obtain ⟨a, ns, rfl, hS, hlen, k⟩ := h
  have hu := hu_of hr
  refine ⟨_, PSs.nox (pss_cons (ps_set (i := 1) sc_law.nd rfl (Or.inr rfl) (pe_disp (pps_cons pe_str pe_str (pps_cons pe_str pe_str (pps_cons pe_str pe_str (pps_cons pe_str pe_str pps_nil)))) (by rfl) (by rfl) (fun z => by cases z) (by decide)))
    (pss_cons (ps_for PassesOwn.never rfl (pi_list (pe_op op_cat (pe_lst (pa_cons (pe_call G__law_cell_at (hr.mono (by first | decide | omega)) rfl T.g__law_cell_at k__law_cell_at b__law_cell_at .nil pass0 (pa_cons (pv 0) (pa_cons pe_int pa_nil))) pa_nil)) (pe_slice sl_list (pv 0) (po_some pe_int) (po_some pe_int)))) (pg_name (i := 2) sc_law.nd rfl (Or.inl rfl))
      (pss_cons (ps_set (i := 3) sc_law.nd rfl (Or.inl rfl) (pe_call G__law_source (hr.mono (by first | decide | omega)) rfl T.g__law_source k__law_source b__law_source .nil pass0 (pa_cons (pv 2) pa_nil)))
        (pss_cons (ps_asg (pe_call G__law_case (hr.mono (by first | decide | omega)) rfl T.g__law_case k__law_case b__law_case .nil pass0 (pa_cons (pv 3) pa_nil)) (pg_tup rfl (pgs_cons (pg_name (i := 4) sc_law.nd rfl (Or.inl rfl)) (pgs_cons (pg_name (i := 5) sc_law.nd rfl (Or.inl rfl)) pgs_nil))))
        (pss_cons (ps_if (PW.pt (pw_or (pt_not (pt_val (pe_call G__law_normals_right (hr.mono (by first | decide | omega)) rfl T.g__law_normals_right k__law_normals_right b__law_normals_right .nil pass0 (pa_cons (pv 3) (pa_cons (pv 4) pa_nil))))) (pw_or1 (pt_not (pt_val (pe_call G__law_normals_right (hr.mono (by first | decide | omega)) rfl T.g__law_normals_right k__law_normals_right b__law_normals_right .nil pass0 (pa_cons (pv 3) (pa_cons (pe_slice sl_list (pe_op op_cat (pv 4) (pv 5)) po_none (po_some pe_int)) pa_nil)))))))) (pss_one (ps_ret pe_bl)) pss_nil)
        (pss_cons (ps_if (pt_not (pt_val (pe_call G__law_normals_right (hr.mono (by first | decide | omega)) rfl T.g__law_normals_right k__law_normals_right b__law_normals_right .nil pass0 (pa_cons (pv 3) (pa_cons (pe_slice sl_list (pe_op op_cat (pe_slice sl_list (pv 4) po_none (po_some (pe_op op_add pe_int (pe_call G__law_draw (hr.mono (by first | decide | omega)) rfl T.g__law_draw k__law_draw b__law_draw .nil pass0 (pa_cons (pv 3) (pa_cons pe_int pa_nil)))))) (pv 5)) po_none (po_some pe_int)) pa_nil))))) (pss_one (ps_ret pe_bl)) pss_nil)
        (pss_cons (ps_for PassesOwn.never rfl (pi_tup (pe_tup (pa_cons (pe_tup (pa_cons (pv 4) (pa_cons (pv 5) pa_nil))) (pa_cons (pe_tup (pa_cons (pv 5) (pa_cons (pv 4) pa_nil))) pa_nil)))) (pg_tup rfl (pgs_cons (pg_name (i := 6) sc_law.nd rfl (Or.inl rfl)) (pgs_cons (pg_name (i := 7) sc_law.nd rfl (Or.inr rfl)) pgs_nil)))
          (pss_cons (ps_set (i := 8) sc_law.nd rfl (Or.inl rfl) (pe_call G_meets (hr.mono (by first | decide | omega)) rfl T.g_meets k_meets b_meets .nil pass0 (pa_cons (pe_call G__law_text (hr.mono (by first | decide | omega)) rfl T.g__law_text k__law_text b__law_text .nil pass0 (pa_cons (pv 6) pa_nil)) (pa_cons (pe_call G__law_text (hr.mono (by first | decide | omega)) rfl T.g__law_text k__law_text b__law_text .nil pass0 (pa_cons (pv 7) pa_nil)) pa_nil))))
            (pss_cons (ps_if (pt_cmpR op_ne (pe_cmpR op_notN (pv 8) pe_non (nomark _)) (pe_call G__law_is_possible (hr.mono (by first | decide | omega)) rfl T.g__law_is_possible k__law_is_possible b__law_is_possible .nil pass0 (pa_cons (pe_op op_cat (pv 6) (pv 7)) pa_nil)) (nomark _)) (pss_one (ps_ret pe_bl)) pss_nil)
            (pss_cons (ps_if (PW.pt (pw_and (pt_cmpR op_notN (pv 8) pe_non (nomark _)) (pw_and1 (PW.pt (pw_or (pt_not (pt_val (pe_call G_is_labels (hr.mono (by first | decide | omega)) rfl T.g_is_labels k_is_labels b_is_labels .nil pass0 (pa_cons (pv 8) pa_nil)))) (pw_or1 (pt_not (pt_val (pe_call G__law_fulfils (hr.mono (by first | decide | omega)) rfl T.g__law_fulfils k__law_fulfils b__law_fulfils .nil pass0 (pa_cons (pe_op op_cat (pv 6) (pv 7)) (pa_cons (pv 8) pa_nil))))))))))) (pss_one (ps_ret pe_bl)) pss_nil)
            (pss_cons (ps_setLc (i := 9) (own := [("_law_row", 12)]) rfl sc_law.nd rfl rfl (sw_true rfl rfl rfl (by decide +kernel)) (pi_list (pv 6)) (blkOk_by (own := [("_law_row", 12)]) (N := N_law) (sc := defScope s_law) (by decide +kernel)) (fun _ _ _ _ _ => (pg_name (i := 12) sc_law.nd rfl (Or.inl rfl))) (fun _ _ _ _ _ => (pts_one (pt_val (pe_call G__law_is_possible (hr.mono (by first | decide | omega)) rfl T.g__law_is_possible k__law_is_possible b__law_is_possible .nil pass0 (pa_cons (pe_op op_cat (pv 7) (pe_lst (pa_cons (pe_tup (pa_cons (pe_ix (show IxR _ (rIxT K) from ix_tup) (pv 12) pe_int (fun _ _ => rfl)) (pa_cons (pe_dget hu (pv 1) (pe_ix (show IxR _ (rIxT K) from ix_tup) (pv 12) pe_int (fun _ _ => rfl)) (fun _ _ => rfl)) (pa_cons (pe_ix (show IxR _ (rIxT K) from ix_tup) (pv 12) pe_int (fun _ _ => rfl)) pa_nil)))) pa_nil))) pa_nil))))) (fun _ _ _ _ _ => (pv 12)))
            (pss_cons (ps_set (i := 10) sc_law.nd rfl (Or.inl rfl) (pe_call G_covers (hr.mono (by first | decide | omega)) rfl T.g_covers k_covers b_covers .nil pass0 (pa_cons (pe_call G__law_text (hr.mono (by first | decide | omega)) rfl T.g__law_text k__law_text b__law_text .nil pass0 (pa_cons (pv 6) pa_nil)) (pa_cons (pe_call G__law_text (hr.mono (by first | decide | omega)) rfl T.g__law_text k__law_text b__law_text .nil pass0 (pa_cons (pv 7) pa_nil)) pa_nil))))
            (pss_cons (ps_if (pt_cmpR op_ne (pe_cmpR op_isN (pv 10) pe_non (nomark _)) (pe_cmpR (op_eqNil hr.units) (pv 9) (pe_lst pa_nil) (nomark _)) (nomark _)) (pss_one (ps_ret pe_bl)) pss_nil)
            (pss_cons (ps_if (PW.pt (pw_and (pt_cmpR op_notN (pv 10) pe_non (nomark _)) (pw_and1 (PW.pt (pw_or (pt_not (pt_val (pe_call G_is_labels (hr.mono (by first | decide | omega)) rfl T.g_is_labels k_is_labels b_is_labels .nil pass0 (pa_cons (pv 10) pa_nil)))) (pw_or1 (pt_not (pt_val (pe_call G__law_fulfils (hr.mono (by first | decide | omega)) rfl T.g__law_fulfils k__law_fulfils b__law_fulfils .nil pass0 (pa_cons (pv 7) (pa_cons (pv 10) pa_nil))))))))))) (pss_one (ps_ret pe_bl)) pss_nil)
            (pss_one (ps_if (PW.pt (pw_and (pt_cmpR op_notN (pv 10) pe_non (nomark _)) (pw_and1 (pt_cmpR op_notBl (pe_call G_matches (hr.mono (by first | decide | omega)) rfl T.g_matches k_matches b_matches .nil pass0 (pa_cons (pe_call G__law_text (hr.mono (by first | decide | omega)) rfl T.g__law_text k__law_text b__law_text .nil pass0 (pa_cons (pv 6) pa_nil)) (pa_cons (pv 10) pa_nil))) pe_bl (nomark _))))) (pss_one (ps_ret pe_bl)) pss_nil))))))))))
        (pss_cons (ps_set (i := 11) sc_law.nd rfl (Or.inl rfl) (pe_op op_cat (pe_slice sl_list (pv 4) po_none (po_some pe_int)) (pe_lc (own := [("_law_name", 13)]) rfl sc_law.nd (pi_list (pe_slice sl_list (pe_lst (pa_cons pe_str (pa_cons pe_str pa_nil))) po_none (po_some (pe_op op_sub pe_int (pe_callB call_len_seq (by rfl) T.n_len (by decide +kernel) (pa_cons (pv 4) pa_nil)))))) (blkOk_by (own := [("_law_name", 13)]) (N := N_law) (sc := defScope s_law) (by decide +kernel)) (fun _ _ _ _ _ => (pg_name (i := 13) sc_law.nd rfl (Or.inl rfl))) (fun _ _ _ _ _ => pts_nil) (fun _ _ _ _ _ => (pe_tup (pa_cons (pv 13) (pa_cons pe_str (pa_cons pe_str pa_nil))))))))
        (pss_one (ps_if (PW.pt (pw_and (pt_val (pe_call G__law_is_possible (hr.mono (by first | decide | omega)) rfl T.g__law_is_possible k__law_is_possible b__law_is_possible .nil pass0 (pa_cons (pv 11) pa_nil))) (pw_and1 (pt_cmpR op_eq (pe_callB call_len_seq (by rfl) T.n_len (by decide +kernel) (pa_cons (pe_call G__law_needed (hr.mono (by first | decide | omega)) rfl T.g__law_needed k__law_needed b__law_needed .nil pass0 (pa_cons (pv 11) pa_nil)) pa_nil)) pe_int (nomark _))))) (pss_cons (ps_if (PW.pt (pw_or (pt_cmpR op_notN (pe_call G_covers (hr.mono (by first | decide | omega)) rfl T.g_covers k_covers b_covers .nil pass0 (pa_cons pe_str (pa_cons (pe_call G__law_text (hr.mono (by first | decide | omega)) rfl T.g__law_text k__law_text b__law_text .nil pass0 (pa_cons (pv 11) pa_nil)) pa_nil))) pe_non (nomark _)) (pw_or1 (pt_cmpR op_notN (pe_call G_meets (hr.mono (by first | decide | omega)) rfl T.g_meets k_meets b_meets .nil pass0 (pa_cons (pe_call G__law_text (hr.mono (by first | decide | omega)) rfl T.g__law_text k__law_text b__law_text .nil pass0 (pa_cons (pv 11) pa_nil)) (pa_cons pe_str pa_nil))) pe_non (nomark _))))) (pss_one (ps_ret pe_bl)) pss_nil)
          (pss_one (ps_if (PW.pt (pw_or (pt_cmpR op_isN (pe_call G_normal (hr.mono (by first | decide | omega)) rfl T.g_normal k_normal b_normal .nil pass0 (pa_cons (pe_call G__law_text (hr.mono (by first | decide | omega)) rfl T.g__law_text k__law_text b__law_text .nil pass0 (pa_cons (pv 11) pa_nil)) pa_nil)) pe_non (nomark _)) (pw_or1 (pt_cmpR op_notN (pe_call G_covers (hr.mono (by first | decide | omega)) rfl T.g_covers k_covers b_covers .nil pass0 (pa_cons (pe_call G__law_text (hr.mono (by first | decide | omega)) rfl T.g__law_text k__law_text b__law_text .nil pass0 (pa_cons (pv 11) pa_nil)) (pa_cons (pe_call G_normal (hr.mono (by first | decide | omega)) rfl T.g_normal k_normal b_normal .nil pass0 (pa_cons (pe_call G__law_text (hr.mono (by first | decide | omega)) rfl T.g__law_text k__law_text b__law_text .nil pass0 (pa_cons (pv 11) pa_nil)) pa_nil)) pa_nil))) pe_non (nomark _))))) (pss_one (ps_ret pe_bl)) pss_nil))) pss_nil)))))))))
    (pss_one (ps_ret pe_bl)))), ?_⟩
  intro pd qd
  refine ⟨upd_same, opps, rfl, by decide, ?_⟩
  rw [upd_upd]
  have S0 := Same.new (u := .dK (mergeK [] opps)) qd
  have gd : (upd H pd (.dK (mergeK [] opps))) pd = _ := upd_same
  generalize upd H pd (.dK (mergeK [] opps)) = H0 at S0 gd ⊢
  refine ⟨_, rfl, a, ns, rfl, S0.seq hS, fun i0 => ⟨smallN (by show 1 ≤ 1000; decide), fun p1 q1 => ?_⟩⟩
  have S1 := Same.new (u := .lst [.int i0]) q1
  have g1 : (upd H0 p1 (.lst [.int i0])) p1 = _ := upd_same
  generalize upd H0 p1 (.lst [.int i0]) = H1 at S1 g1 ⊢
  refine ⟨_, rfl, _, rfl, _, rfl, a, _, rfl, (S0.trans S1).seq hS, fun p2 q2 => ?_⟩
  have S2 := Same.new (u := .lst (cutV (ns.map V.int) (some 1) (some 5))) q2
  have g2 : (upd H1 p2 (.lst (cutV (ns.map V.int) (some 1) (some 5)))) p2 = _ := upd_same
  generalize upd H1 p2 (.lst (cutV (ns.map V.int) (some 1) (some 5))) = H2 at S2 g2 ⊢
  have hc : (cutV (ns.map V.int) (some 1) (some 5)).length ≤ 63 := Nat.le_trans (cutV_length _ _ _) (by rw [List.length_map]; exact hlen)
  refine ⟨p1, p2, _, _, rfl, rfl, S2 _ _ g1, g2, smallN (by show 1 + _ ≤ 1000; omega), fun p3 q3 => ?_⟩
  have S3 := Same.new (u := .lst ([.int i0] ++ cutV (ns.map V.int) (some 1) (some 5))) q3
  have g3 : (upd H2 p3 (.lst ([.int i0] ++ cutV (ns.map V.int) (some 1) (some 5)))) p3 = _ := upd_same
  generalize upd H2 p3 (.lst ([.int i0] ++ cutV (ns.map V.int) (some 1) (some 5))) = H3 at S3 g3 ⊢
  have gd3 := S3 _ _ (S2 _ _ (S1 _ _ gd))
  have hints : ∀ x ∈ [V.int i0] ++ cutV (ns.map V.int) (some 1) (some 5), ∃ i, x = .int i := fun x hx => by
    rcases List.mem_append.mp hx with hx | hx
    · exact ⟨_, List.mem_singleton.mp hx⟩
    · exact cut_int hx
  generalize [V.int i0] ++ cutV (ns.map V.int) (some 1) (some 5) = cells at g3 hints ⊢
  refine ⟨p3, rfl, ⟨_, SqL.of g3⟩, for_list (K := K) (a := p3) (xs := cells) (fun i σ H' => ∃ v2 v3 v4 v5 v6 v7 v8 v9 v10 v11 v12 v13 : Option V, σ = [some (.ref a), some (.ref pd), v2, v3, v4, v5, v6, v7, v8, v9, v10, v11, v12, v13] ∧ Same H3 H')
    ⟨_, _, _, _, _, _, _, _, _, _, _, _, rfl, Same.refl _⟩ (fun i σ H' _ ⟨_, _, _, _, _, _, _, _, _, _, _, _, _, sm⟩ => SqL.of (sm _ _ g3)) ?_ (fun σ H' _ => k H')⟩
  rintro i x σ H4 hx ⟨v2, v3, v4, v5, v6, v7, v8, v9, v10, v11, v12, v13, rfl, S4⟩
  obtain ⟨z, rfl⟩ := hints x (mem_at hx)
  refine ⟨_, rfl, z, rfl, fun aw u q5 hu5 => ?_⟩
  have S5 := S4.trans (Same.new (u := u) q5)
  have nA : ∀ b o, H3 b = some o → b ≠ aw := fun b o hb => ne_of_none (S4 _ _ hb) q5
  have w5 := well_upd (H := H4) (a := aw) hu5
  generalize upd H4 aw u = H5 at S5 w5 ⊢
  refine ⟨_, rfl, aw, 0, rfl, w5, by decide, fun H6 n6 p6 L M rs more K6 w6 hn6 g6 RL RM nL nM hrs hmore l6 l8 l3 => ?_⟩
  refine ⟨p6, _, rfl, SqT.of g6, rfl, _, _, rfl, _, _, rfl, rfl, ?_⟩
  have h8 : Rows8 rs := ⟨l8, fun r hr0 => (hrs r hr0).1⟩
  have hm8 : Rows8 more := ⟨by omega, hmore⟩
  refine ⟨_, rfl, _, rfl, aw, L, n6, rs, rfl, w6, by omega, RL, nL, h8, by omega, fun H7 n7 K7 w7 hn7 => ⟨_, rfl, iteF ?_⟩⟩
  have RL7 := rows_keep w6 K7 nL RL
  have RM7 := rows_keep w6 K7 nM RM
  -- (rows + more)[:8]
  obtain ⟨r7, gr7, hr7⟩ := id RL7
  obtain ⟨m7, gm7, hm7⟩ := id RM7
  have lr7 := paired_len hr7
  have lm7 := paired_len hm7
  refine ⟨_, rfl, _, rfl, _, rfl, L, M, _, _, rfl, rfl, gr7, gm7, smallN (by rw [List.length_map, List.length_map]; omega), fun p8 q8 => ?_⟩
  rw [← List.map_append]
  have S8 := Same.new (u := .lst ((r7 ++ m7).map V.ref)) q8
  have g8 : (upd H7 p8 (.lst ((r7 ++ m7).map V.ref))) p8 = _ := upd_same
  have w8 := well_new (u := .lst ((r7 ++ m7).map V.ref)) w7 q8
  generalize upd H7 p8 (.lst ((r7 ++ m7).map V.ref)) = H8 at S8 g8 w8 ⊢
  have n8 : p8 ≠ aw := well_ne3 w7 q8
  refine ⟨_, rfl, p8, _, rfl, SqL.of g8, fun p9 q9 => ?_⟩
  rw [cut_takeI _ (by decide), ← List.map_take]
  have S9 := Same.new (u := .lst (((r7 ++ m7).take (8 : Int).toNat).map V.ref)) q9
  have R9 : RowsAt (upd H8 p9 (.lst (((r7 ++ m7).take (8 : Int).toNat).map V.ref))) p9 ((rs ++ more).take 8) := ⟨_, upd_same, pr_same (S8.trans S9) (paired_take 8 (paired_join hr7 hm7))⟩
  have n9 : p9 ≠ aw := well_ne3 w8 q9
  have w9 := well_new (u := .lst (((r7 ++ m7).take (8 : Int).toNat).map V.ref)) w8 q9
  generalize upd H8 p9 (.lst (((r7 ++ m7).take (8 : Int).toNat).map V.ref)) = H9 at S9 R9 w9 ⊢
  have hA : ∀ r ∈ rs ++ more, r ∈ allRows := fun r hr0 => (List.mem_append.mp hr0).elim (fun h => (hrs r h).1) (hmore r)
  have RL9 := rows_same (S8.trans S9) RL7
  have RM9 := rows_same (S8.trans S9) RM7
  refine ⟨aw, p9, n7, _, rfl, w9, by omega, R9, n9, ⟨by rw [List.length_take]; omega, fun r hr0 => hA r (List.mem_of_mem_take hr0)⟩, by rw [List.length_take, List.length_append]; omega, fun Ha na Ka wa hna => ⟨_, rfl, iteF ?_⟩⟩
  have RLa := rows_keep w9 Ka nL RL9
  have RMa := rows_keep w9 Ka nM RM9
  have K6a : Keep aw H6 Ha := K7.trans ((Keep.of (S8.trans S9)).trans Ka)
  clear R9 RL9 RM9 RL7 RM7
  -- (rows[:4 + draw] + more)[:8]
  obtain ⟨ra, gra, hra⟩ := id RLa
  have lra := paired_len hra
  refine ⟨_, rfl, _, rfl, _, rfl, aw, na, 3, rfl, wa, by omega, by decide, by decide, fun c ub nb c0 c1 hnb hub => ?_⟩
  have Kb : Keep aw Ha (upd Ha aw ub) := Keep.at_
  have wb := well_upd (H := Ha) (a := aw) hub
  have grb := Kb _ _ nL gra
  have RLb := rows_keep wa Kb nL RLa
  have RMb := rows_keep wa Kb nM RMa
  generalize upd Ha aw ub = Hb at Kb wb grb RLb RMb ⊢
  refine ⟨_, _, rfl, rfl, _, rfl, L, _, rfl, SqL.of grb, fun pc qc => ?_⟩
  rw [cut_takeI _ (by omega), ← List.map_take]
  obtain ⟨m, hm⟩ : ∃ m, (4 + c).toNat = m := ⟨_, rfl⟩
  have m4 : 4 ≤ m ∧ m ≤ 6 := by omega
  rw [hm]
  have Sc := Same.new (u := .lst ((ra.take m).map V.ref)) qc
  have gc : (upd Hb pc (.lst ((ra.take m).map V.ref))) pc = _ := upd_same
  have wc := well_new (u := .lst ((ra.take m).map V.ref)) wb qc
  generalize upd Hb pc (.lst ((ra.take m).map V.ref)) = Hc at Sc gc wc ⊢
  obtain ⟨rb, grb', hrb⟩ := id RLb
  have erb : rb.map V.ref = ra.map V.ref := by rw [grb] at grb'; injection grb' with z; injection z with z; exact z.symm
  have erb : rb = ra := (List.map_inj_right (fun x y h => by injection h)).mp erb
  subst erb
  obtain ⟨mb, gmb, hmb⟩ := id RMb
  have lmb := paired_len hmb
  refine ⟨_, rfl, pc, M, _, _, rfl, rfl, gc, Sc _ _ gmb, smallN (by rw [List.length_map, List.length_map, List.length_take]; omega), fun pe qe => ?_⟩
  rw [← List.map_append]
  have Se := Same.new (u := .lst ((rb.take m ++ mb).map V.ref)) qe
  have ge : (upd Hc pe (.lst ((rb.take m ++ mb).map V.ref))) pe = _ := upd_same
  have we := well_new (u := .lst ((rb.take m ++ mb).map V.ref)) wc qe
  generalize upd Hc pe (.lst ((rb.take m ++ mb).map V.ref)) = He at Se ge we ⊢
  refine ⟨_, rfl, pe, _, rfl, SqL.of ge, fun pf qf => ?_⟩
  rw [cut_takeI _ (by decide), ← List.map_take]
  have Sf := Same.new (u := .lst (((rb.take m ++ mb).take (8 : Int).toNat).map V.ref)) qf
  have Sbf := Sc.trans (Se.trans Sf)
  have Rf : RowsAt (upd He pf (.lst (((rb.take m ++ mb).take (8 : Int).toNat).map V.ref))) pf ((rs.take m ++ more).take 8) := ⟨_, upd_same, pr_same Sbf (paired_take 8 (paired_join (paired_take m hrb) hmb))⟩
  have nf : pf ≠ aw := well_ne3 we qf
  have wf := well_new (u := .lst (((rb.take m ++ mb).take (8 : Int).toNat).map V.ref)) we qf
  generalize upd He pf (.lst (((rb.take m ++ mb).take (8 : Int).toNat).map V.ref)) = Hf at Sf Rf wf Sbf ⊢
  have RLf := rows_same Sbf RLb
  have RMf := rows_same Sbf RMb
  refine ⟨aw, pf, nb, _, rfl, wf, by omega, Rf, nf, ⟨by rw [List.length_take]; omega, fun r hr0 => hA r ?_⟩, by rw [List.length_take, List.length_append, List.length_take]; omega, fun Hg ng Kg wg hng => ⟨_, rfl, iteF ?_⟩⟩
  · rcases List.mem_append.mp (List.mem_of_mem_take hr0) with h | h
    · exact List.mem_append_left _ (List.mem_of_mem_take h)
    · exact List.mem_append_right _ h
  have RLg := rows_keep wf Kg nL RLf
  have RMg := rows_keep wf Kg nM RMf
  have K6g : Keep aw H6 Hg := K6a.trans (Kb.trans ((Keep.of Sbf).trans Kg))
  have S3g : Same H3 Hg := fun b o hb => K6g _ _ (nA b o hb) (K6 _ _ (nA b o hb) (S5 _ _ hb))
  have gdg := S3g _ _ gd3
  have KZ : True := True.intro
  clear Rf RLf RMf RLb RMb RLa RMa hrb hmb hra grb grb' gmb gra hr7 hm7 gr7 gm7 K6g K6a Kb Sbf Kg wf Sf we Se wc Sc wb wa w9 S9 w8 S8 w7 K7 w6 K6 S5
  -- the two pairs
  refine ⟨_, rfl, _, rfl, smallN (by show 2 ≤ 1000; decide), fun t1 qt1 => ⟨_, rfl, _, rfl, smallN (by show 2 ≤ 1000; decide), fun t2 qt2 => ⟨smallN (by show 2 ≤ 1000; decide), fun t3 qt3 => ?_⟩⟩⟩
  have T1 := Same.new (u := .tup [.ref L, .ref M]) qt1
  have gt1 : (upd Hg t1 (.tup [.ref L, .ref M])) t1 = _ := upd_same
  generalize upd Hg t1 (.tup [.ref L, .ref M]) = Hh at T1 gt1 qt2 qt3 ⊢
  have T2 := Same.new (u := .tup [.ref M, .ref L]) qt2
  have gt2 : (upd Hh t2 (.tup [.ref M, .ref L])) t2 = _ := upd_same
  generalize upd Hh t2 (.tup [.ref M, .ref L]) = Hi at T2 gt2 qt3 ⊢
  have T3 := Same.new (u := .tup [.ref t1, .ref t2]) qt3
  have gt3 : (upd Hi t3 (.tup [.ref t1, .ref t2])) t3 = _ := upd_same
  generalize upd Hi t3 (.tup [.ref t1, .ref t2]) = Hj at T3 gt3 ⊢
  have Tj := T1.trans (T2.trans T3)
  have gt1 := T3 _ _ (T2 _ _ gt1)
  have gt2 := T3 _ _ gt2
  have RLj := rows_same Tj RLg
  have RMj := rows_same Tj RMg
  have gdj := Tj _ _ gdg
  have S3j := S3g.trans Tj
  clear T1 T2 T3 RLg RMg gdg
  refine ⟨t3, rfl, ⟨_, SqT.of gt3⟩, for_tup (K := K) (a := t3) (xs := [V.ref t1, V.ref t2]) (fun i σ H' => ∃ v6 v7 v8 v9 v10 v12 : Option V, σ = [some (.ref a), some (.ref pd), some (.int z), some (.ref aw), some (.ref L), some (.ref M), v6, v7, v8, v9, v10, v11, v12, v13] ∧ Same Hj H')
    ⟨_, _, _, _, _, _, rfl, Same.refl _⟩ (fun i σ H' _ ⟨_, _, _, _, _, _, _, sm⟩ => SqT.of (sm _ _ gt3)) ?_ ?_⟩
  · rintro i x σ Hk hx ⟨v6, v7, v8, v9, v10, v12, rfl, Sk⟩
    have two : (x = .ref t1 ∨ x = .ref t2) := by
      have := mem_at hx
      simpa using this
    obtain ⟨t, A, B, one, other, rfl, gt, RA, RB, hA', hB'⟩ : ∃ (t A B : Addr) (one other : List Row), x = .ref t ∧ Hj t = some (.tup [.ref A, .ref B]) ∧ RowsAt Hj A one ∧ RowsAt Hj B other ∧ Rows8 one ∧ Rows8 other := by
      rcases two with e | e
      · exact ⟨t1, L, M, rs, more, e, gt1, RLj, RMj, h8, hm8⟩
      · exact ⟨t2, M, L, more, rs, e, gt2, RMj, RLj, hm8, h8⟩
    refine ⟨t, _, rfl, SqT.of (Sk _ _ gt), rfl, _, _, rfl, _, _, rfl, rfl, ?_⟩
    refine law_meets hA' hB' (rows_same Sk RA) (rows_same Sk RB) fun v Hl Sl => ?_
    exact law_covers hA' hB' (rows_same (Sk.trans Sl) RA) (rows_same (Sk.trans Sl) RB) ((Sk.trans Sl) _ _ gdj) fun y9 y10 y12 Hm Sm => ⟨_, _, _, _, _, _, rfl, Sk.trans (Sl.trans Sm)⟩
  rintro σ Hk ⟨v6, v7, v8, v9, v10, v12, rfl, Sk⟩
  have RLk := rows_same Sk RLj
  obtain ⟨rk, grk, hrk⟩ := id RLk
  have lrk := paired_len hrk
  refine ⟨_, rfl, _, rfl, L, _, rfl, SqL.of grk, fun pl ql => ?_⟩
  rw [cut_takeI _ (by decide), ← List.map_take]
  have Sl := Same.new (u := .lst ((rk.take (8 : Int).toNat).map V.ref)) ql
  have Rl : RowsAt (upd Hk pl (.lst ((rk.take (8 : Int).toNat).map V.ref))) pl (rs.take 8) := ⟨_, upd_same, pr_same Sl (paired_take 8 hrk)⟩
  generalize upd Hk pl (.lst ((rk.take (8 : Int).toNat).map V.ref)) = Hl at Sl Rl ⊢
  refine ⟨smallN (by show 2 ≤ 1000; decide), fun pm qm => ?_⟩
  generalize eHm : upd Hl pm _ = Hm
  have Sm := lay_same eHm qm
  have gm : Hm pm = some (.lst ((["l", "m"] : List Str).map V.str)) := lay_at eHm
  clear eHm
  refine ⟨_, rfl, L, _, rfl, .inl (SqL.of ((Sl.trans Sm) _ _ grk)), _, _, rfl, rfl, _, rfl, pm, _, rfl, SqL.of gm, fun pn qn => ?_⟩
  rw [cut_takeI _ (by rw [List.length_map]; omega), ← List.map_take]
  obtain ⟨j, hj⟩ : ∃ j, ((8 : Int) - ((rk.map V.ref).length : Nat)).toNat = j := ⟨_, rfl⟩
  have j8 : rs.length + j ≤ 8 := by rw [List.length_map] at hj; omega
  rw [hj]
  have Sn := Same.new (u := .lst (((["l", "m"] : List Str).take j).map V.str)) qn
  have gn : (upd Hm pn (.lst (((["l", "m"] : List Str).take j).map V.str))) pn = _ := upd_same
  have Sln := Sm.trans Sn
  generalize upd Hm pn (.lst (((["l", "m"] : List Str).take j).map V.str)) = Hn at Sln gn ⊢
  have lms : ∀ x ∈ (["l", "m"] : List Str).take j, x ∈ names4 ∧ x ≠ "zz" ∧ x ≠ "q" := fun x hx => lm_fact x (List.mem_of_mem_take hx)
  have lml : ((["l", "m"] : List Str).take j).length ≤ j := by rw [List.length_take]; omega
  generalize (["l", "m"] : List Str).take j = lm at gn lms lml
  refine ⟨pn, rfl, ⟨_, SqL.of gn⟩, fun D hD => ?_⟩
  refine lc_list (K := K) (a := pn) (xs := lm.map V.str) (fun i H' => Same Hn H' ∧ RowsAt H' D ((lm.take i).map fun x => (⟨x, .there, ""⟩ : Row))) ⟨Same.new hD, [], upd_same, .nil⟩ (fun i H' _ p => SqL.of (p.1 _ _ gn)) ?_ ?_
  · rintro i y Ho hy ⟨So, RD⟩
    rw [List.getElem?_map] at hy
    obtain ⟨v, ev, rfl⟩ := Option.map_eq_some_iff.mp hy
    refine ⟨rfl, yes_ (iteT ⟨_, rfl, smallN (by show 3 ≤ 1000; decide), fun po qo => ?_⟩)⟩
    have Sp := Same.new (u := .tup [.str v, .str "there", .str ""]) qo
    have rp : RowAt (upd Ho po (.tup [.str v, .str "there", .str ""])) po ⟨v, .there, ""⟩ := upd_same
    generalize upd Ho po (.tup [.str v, .str "there", .str ""]) = Hp' at Sp rp ⊢
    have RD' := rows_same Sp RD
    obtain ⟨ds, gD, hds⟩ := id RD'
    have lds := paired_len hds
    rw [List.length_map, List.length_take] at lds
    refine ⟨_, gD, small1000 (by rw [List.length_map]; omega), fun b o hb => ?_, ?_⟩
    · rw [upd_ne (ne_of_none hb hD)]; exact Sp _ _ (So _ _ hb)
    · rw [get_take ev, List.map_append]
      exact rows_push RD' gD rp
  · rintro Ho ⟨So, RD⟩
    rw [List.length_map, List.take_length] at RD
    obtain ⟨ds, gD, hds⟩ := id RD
    have lds := paired_len hds
    rw [List.length_map] at lds
    have Slo := Sln.trans So
    obtain ⟨rl, grl, hrl⟩ := rows_same Slo Rl
    have lrl := paired_len hrl
    rw [List.length_take] at lrl
    refine ⟨pl, D, _, _, rfl, rfl, grl, gD, smallN (by rw [List.length_map, List.length_map]; omega), fun pf qf => ?_⟩
    have Rf := rows_cat (L1 := pl) (L2 := D) hrl hds qf
    have Sf := Same.new (u := .lst (rl.map V.ref ++ ds.map V.ref)) qf
    generalize upd Ho pf (.lst (rl.map V.ref ++ ds.map V.ref)) = Hf' at Rf Sf ⊢
    refine law_full (fl := rs.take 8 ++ lm.map fun x => (⟨x, .there, ""⟩ : Row)) ⟨?_, fun r hr0 => ?_⟩ Rf (fun r hr0 => ?_) fun Hz Sz => ⟨_, _, _, _, _, _, _, _, _, _, _, _, rfl, S3j.trans (Sk.trans (Sl.trans (Slo.trans (Sf.trans Sz))))⟩
    · rw [List.length_append, List.length_take, List.length_map]; omega
    · rcases List.mem_append.mp hr0 with h | h
      · exact (hrs r (List.mem_of_mem_take h)).1
      · obtain ⟨x, hx, rfl⟩ := List.mem_map.mp h
        exact (row_mem (lms x hx).1 (v := "") (by simp [vals8])).2.2.1
    · rcases List.mem_append.mp hr0 with h | h
      · exact n11_fact _ (hrs r (List.mem_of_mem_take h)).2
      · obtain ⟨x, hx, rfl⟩ := List.mem_map.mp h
        exact (lms x hx).2

def dd_is_user_name : He.DefD := ⟨("is_user_name", none), "is_user_name", "is_user_name", defArgs s_is_user_name, defBody s_is_user_name, defScope s_is_user_name, [], []⟩
def dd_is_label_value : He.DefD := ⟨("is_label_value", none), "is_label_value", "is_label_value", defArgs s_is_label_value, defBody s_is_label_value, defScope s_is_label_value, [], []⟩
def dd_is_labels : He.DefD := ⟨("is_labels", none), "is_labels", "is_labels", defArgs s_is_labels, defBody s_is_labels, defScope s_is_labels, [], []⟩
def dd_requirement : He.DefD := ⟨("requirement", none), "requirement", "requirement", defArgs s_requirement, defBody s_requirement, defScope s_requirement, [], []⟩
def dd_rows_of : He.DefD := ⟨("rows_of", none), "rows_of", "rows_of", defArgs s_rows_of, defBody s_rows_of, defScope s_rows_of, [], []⟩
def dd_requirements : He.DefD := ⟨("requirements", none), "requirements", "requirements", defArgs s_requirements, defBody s_requirements, defScope s_requirements, [], []⟩
def dd_is_fulfilled : He.DefD := ⟨("is_fulfilled", none), "is_fulfilled", "is_fulfilled", defArgs s_is_fulfilled, defBody s_is_fulfilled, defScope s_is_fulfilled, [], []⟩
def dd_matches : He.DefD := ⟨("matches", none), "matches", "matches", defArgs s_matches, defBody s_matches, defScope s_matches, [], []⟩
def dd_bound_of : He.DefD := ⟨("bound_of", none), "bound_of", "bound_of", defArgs s_bound_of, defBody s_bound_of, defScope s_bound_of, [], []⟩
def dd_bounds_of : He.DefD := ⟨("bounds_of", none), "bounds_of", "bounds_of", defArgs s_bounds_of, defBody s_bounds_of, defScope s_bounds_of, [], []⟩
def dd_needed : He.DefD := ⟨("needed", none), "needed", "needed", defArgs s_needed, defBody s_needed, defScope s_needed, [], []⟩
def dd_labels_for : He.DefD := ⟨("labels_for", none), "labels_for", "labels_for", defArgs s_labels_for, defBody s_labels_for, defScope s_labels_for, [], []⟩
def dd_meets : He.DefD := ⟨("meets", none), "meets", "meets", defArgs s_meets, defBody s_meets, defScope s_meets, [], []⟩
def dd_covers : He.DefD := ⟨("covers", none), "covers", "covers", defArgs s_covers, defBody s_covers, defScope s_covers, [], []⟩
def dd_texts_of : He.DefD := ⟨("texts_of", none), "texts_of", "texts_of", defArgs s_texts_of, defBody s_texts_of, defScope s_texts_of, [], []⟩
def dd_normal : He.DefD := ⟨("normal", none), "normal", "normal", defArgs s_normal, defBody s_normal, defScope s_normal, [], []⟩
def dd__law_cell_at : He.DefD := ⟨("_law_cell_at", none), "_law_cell_at", "_law_cell_at", defArgs s__law_cell_at, defBody s__law_cell_at, defScope s__law_cell_at, [], []⟩
def dd__law_source : He.DefD := ⟨("_law_source", none), "_law_source", "_law_source", defArgs s__law_source, defBody s__law_source, defScope s__law_source, [], []⟩
def dd__law_draw : He.DefD := ⟨("_law_draw", none), "_law_draw", "_law_draw", defArgs s__law_draw, defBody s__law_draw, defScope s__law_draw, [], []⟩
def dd__law_pick : He.DefD := ⟨("_law_pick", none), "_law_pick", "_law_pick", defArgs s__law_pick, defBody s__law_pick, defScope s__law_pick, [], []⟩
def dd__law_value : He.DefD := ⟨("_law_value", none), "_law_value", "_law_value", defArgs s__law_value, defBody s__law_value, defScope s__law_value, [], []⟩
def dd__law_requirement : He.DefD := ⟨("_law_requirement", none), "_law_requirement", "_law_requirement", defArgs s__law_requirement, defBody s__law_requirement, defScope s__law_requirement, [], []⟩
def dd__law_text : He.DefD := ⟨("_law_text", none), "_law_text", "_law_text", defArgs s__law_text, defBody s__law_text, defScope s__law_text, [], []⟩
def dd__law_rows : He.DefD := ⟨("_law_rows", none), "_law_rows", "_law_rows", defArgs s__law_rows, defBody s__law_rows, defScope s__law_rows, [], []⟩
def dd__law_fulfils : He.DefD := ⟨("_law_fulfils", none), "_law_fulfils", "_law_fulfils", defArgs s__law_fulfils, defBody s__law_fulfils, defScope s__law_fulfils, [], []⟩
def dd__law_all_labels : He.DefD := ⟨("_law_all_labels", none), "_law_all_labels", "_law_all_labels", defArgs s__law_all_labels, defBody s__law_all_labels, defScope s__law_all_labels, [], []⟩
def dd__law_needed : He.DefD := ⟨("_law_needed", none), "_law_needed", "_law_needed", defArgs s__law_needed, defBody s__law_needed, defScope s__law_needed, [], []⟩
def dd__law_is_possible : He.DefD := ⟨("_law_is_possible", none), "_law_is_possible", "_law_is_possible", defArgs s__law_is_possible, defBody s__law_is_possible, defScope s__law_is_possible, [], []⟩
def dd__law_case : He.DefD := ⟨("_law_case", none), "_law_case", "_law_case", defArgs s__law_case, defBody s__law_case, defScope s__law_case, [], []⟩
def dd__law_is_covered : He.DefD := ⟨("_law_is_covered", none), "_law_is_covered", "_law_is_covered", defArgs s__law_is_covered, defBody s__law_is_covered, defScope s__law_is_covered, [], []⟩
def dd__law_normals_right : He.DefD := ⟨("_law_normals_right", none), "_law_normals_right", "_law_normals_right", defArgs s__law_normals_right, defBody s__law_normals_right, defScope s__law_normals_right, [], []⟩
def dd_law : He.DefD := ⟨("law", none), "law", "law", defArgs s_law, defBody s_law, defScope s_law, [], []⟩
def fn : List He.DefD := [dd_is_user_name, dd_is_label_value, dd_is_labels, dd_requirement, dd_rows_of, dd_requirements, dd_is_fulfilled, dd_matches, dd_bound_of, dd_bounds_of, dd_needed, dd_labels_for, dd_meets, dd_covers, dd_texts_of, dd_normal, dd__law_cell_at, dd__law_source, dd__law_draw, dd__law_pick, dd__law_value, dd__law_requirement, dd__law_text, dd__law_rows, dd__law_fulfils, dd__law_all_labels, dd__law_needed, dd__law_is_possible, dd__law_case, dd__law_is_covered, dd__law_normals_right, dd_law]
def fa : List He.Fa := [.glo "is_user_name", .glo "is_label_value", .glo "is_labels", .glo "requirement", .glo "rows_of", .glo "requirements", .glo "is_fulfilled", .glo "matches", .glo "bound_of", .glo "bounds_of", .glo "needed", .glo "labels_for", .glo "meets", .glo "covers", .glo "texts_of", .glo "normal", .glo "_law_cell_at", .glo "_law_source", .glo "_law_draw", .glo "_law_pick", .glo "_law_value", .glo "_law_requirement", .glo "_law_text", .glo "_law_rows", .glo "_law_fulfils", .glo "_law_all_labels", .glo "_law_needed", .glo "_law_is_possible", .glo "_law_case", .glo "_law_is_covered", .glo "_law_normals_right", .glo "law", .glo "PlaneError", .glo "BadSelector", .glo "BadLabels", .free "len", .free "int", .free "str", .free "list", .free "dict", .free "set", .free "range", .free "isinstance", .free "all", .free "sorted", .free "zip", .free "ValueError", .str "SMALL" "abcdefghijklmnopqrstuvwxyz", .str "DIGITS" "0123456789", .int "MOST_SIGNS" 10, .int "MOST_LABELS" 8, .int "MOST_REQUIREMENTS" 8, .int "MOST_LETTERS" 24, .glo "OPPOSITE"]
def tf : List He.Defn := []
def ts : List He.Tab := [((fun K => He.ga K "OPPOSITE"), ["is", "not", "there", "missing"])]
abbrev R : PySem.W.OpenRow := PySem.W.OpenLaw.row PySem.Challenge.rw_controlplane_k05_whole_eight_names_at_mo
abbrev hk : PySem.W.Hook := hookY fa fn ts tf exB
def ob (s : PySem.W.SharedT) : He.AlX := obsY fa fn ts tf exB (HandSHeadRun.getT s)
theorem ob_eq (s : PySem.W.SharedT) : ob s = hk.obs s.abs := obsY_eq (HandSHeadRun.getT_eq s)
theorem run_false (w : World) : HandSHeadRun.RunEq R (PySem.W.view R.prog [45]) hk ob 2000 [("__name__" : PySem.Str), ("PlaneError" : PySem.Str), ("BadSelector" : PySem.Str), ("BadLabels" : PySem.Str), ("is_user_name" : PySem.Str), ("is_label_value" : PySem.Str), ("is_labels" : PySem.Str), ("requirement" : PySem.Str), ("rows_of" : PySem.Str), ("requirements" : PySem.Str), ("is_fulfilled" : PySem.Str), ("matches" : PySem.Str), ("bound_of" : PySem.Str), ("bounds_of" : PySem.Str), ("needed" : PySem.Str), ("labels_for" : PySem.Str), ("meets" : PySem.Str), ("covers" : PySem.Str), ("texts_of" : PySem.Str), ("normal" : PySem.Str), ("_law_cell_at" : PySem.Str), ("_law_source" : PySem.Str), ("_law_draw" : PySem.Str), ("_law_pick" : PySem.Str), ("_law_value" : PySem.Str), ("_law_requirement" : PySem.Str), ("_law_text" : PySem.Str), ("_law_rows" : PySem.Str), ("_law_fulfils" : PySem.Str), ("_law_all_labels" : PySem.Str), ("_law_needed" : PySem.Str), ("_law_is_possible" : PySem.Str), ("_law_case" : PySem.Str), ("_law_is_covered" : PySem.Str), ("_law_normals_right" : PySem.Str), ("SMALL" : PySem.Str), ("DIGITS" : PySem.Str), ("MOST_SIGNS" : PySem.Str), ("MOST_LABELS" : PySem.Str), ("MOST_REQUIREMENTS" : PySem.Str), ("MOST_LETTERS" : PySem.Str), ("OPPOSITE" : PySem.Str)] (w.withFollow "special-get-raises" false) := by
  intro os
  kernel_rfl
theorem run_true (w : World) : HandSHeadRun.RunEq R (PySem.W.view R.prog [45]) hk ob 2000 [("__name__" : PySem.Str), ("PlaneError" : PySem.Str), ("BadSelector" : PySem.Str), ("BadLabels" : PySem.Str), ("is_user_name" : PySem.Str), ("is_label_value" : PySem.Str), ("is_labels" : PySem.Str), ("requirement" : PySem.Str), ("rows_of" : PySem.Str), ("requirements" : PySem.Str), ("is_fulfilled" : PySem.Str), ("matches" : PySem.Str), ("bound_of" : PySem.Str), ("bounds_of" : PySem.Str), ("needed" : PySem.Str), ("labels_for" : PySem.Str), ("meets" : PySem.Str), ("covers" : PySem.Str), ("texts_of" : PySem.Str), ("normal" : PySem.Str), ("_law_cell_at" : PySem.Str), ("_law_source" : PySem.Str), ("_law_draw" : PySem.Str), ("_law_pick" : PySem.Str), ("_law_value" : PySem.Str), ("_law_requirement" : PySem.Str), ("_law_text" : PySem.Str), ("_law_rows" : PySem.Str), ("_law_fulfils" : PySem.Str), ("_law_all_labels" : PySem.Str), ("_law_needed" : PySem.Str), ("_law_is_possible" : PySem.Str), ("_law_case" : PySem.Str), ("_law_is_covered" : PySem.Str), ("_law_normals_right" : PySem.Str), ("SMALL" : PySem.Str), ("DIGITS" : PySem.Str), ("MOST_SIGNS" : PySem.Str), ("MOST_LABELS" : PySem.Str), ("MOST_REQUIREMENTS" : PySem.Str), ("MOST_LETTERS" : PySem.Str), ("OPPOSITE" : PySem.Str)] (w.withFollow "special-get-raises" true) := by
  intro os
  kernel_rfl
theorem run (w : World) : HandSHeadRun.RunEq R (PySem.W.view R.prog [45]) hk ob 2000 [("__name__" : PySem.Str), ("PlaneError" : PySem.Str), ("BadSelector" : PySem.Str), ("BadLabels" : PySem.Str), ("is_user_name" : PySem.Str), ("is_label_value" : PySem.Str), ("is_labels" : PySem.Str), ("requirement" : PySem.Str), ("rows_of" : PySem.Str), ("requirements" : PySem.Str), ("is_fulfilled" : PySem.Str), ("matches" : PySem.Str), ("bound_of" : PySem.Str), ("bounds_of" : PySem.Str), ("needed" : PySem.Str), ("labels_for" : PySem.Str), ("meets" : PySem.Str), ("covers" : PySem.Str), ("texts_of" : PySem.Str), ("normal" : PySem.Str), ("_law_cell_at" : PySem.Str), ("_law_source" : PySem.Str), ("_law_draw" : PySem.Str), ("_law_pick" : PySem.Str), ("_law_value" : PySem.Str), ("_law_requirement" : PySem.Str), ("_law_text" : PySem.Str), ("_law_rows" : PySem.Str), ("_law_fulfils" : PySem.Str), ("_law_all_labels" : PySem.Str), ("_law_needed" : PySem.Str), ("_law_is_possible" : PySem.Str), ("_law_case" : PySem.Str), ("_law_is_covered" : PySem.Str), ("_law_normals_right" : PySem.Str), ("SMALL" : PySem.Str), ("DIGITS" : PySem.Str), ("MOST_SIGNS" : PySem.Str), ("MOST_LABELS" : PySem.Str), ("MOST_REQUIREMENTS" : PySem.Str), ("MOST_LETTERS" : PySem.Str), ("OPPOSITE" : PySem.Str)] w := PySem.W.byRow2 "special-get-raises" (P := fun w => HandSHeadRun.RunEq R (PySem.W.view R.prog [45]) hk ob 2000 [("__name__" : PySem.Str), ("PlaneError" : PySem.Str), ("BadSelector" : PySem.Str), ("BadLabels" : PySem.Str), ("is_user_name" : PySem.Str), ("is_label_value" : PySem.Str), ("is_labels" : PySem.Str), ("requirement" : PySem.Str), ("rows_of" : PySem.Str), ("requirements" : PySem.Str), ("is_fulfilled" : PySem.Str), ("matches" : PySem.Str), ("bound_of" : PySem.Str), ("bounds_of" : PySem.Str), ("needed" : PySem.Str), ("labels_for" : PySem.Str), ("meets" : PySem.Str), ("covers" : PySem.Str), ("texts_of" : PySem.Str), ("normal" : PySem.Str), ("_law_cell_at" : PySem.Str), ("_law_source" : PySem.Str), ("_law_draw" : PySem.Str), ("_law_pick" : PySem.Str), ("_law_value" : PySem.Str), ("_law_requirement" : PySem.Str), ("_law_text" : PySem.Str), ("_law_rows" : PySem.Str), ("_law_fulfils" : PySem.Str), ("_law_all_labels" : PySem.Str), ("_law_needed" : PySem.Str), ("_law_is_possible" : PySem.Str), ("_law_case" : PySem.Str), ("_law_is_covered" : PySem.Str), ("_law_normals_right" : PySem.Str), ("SMALL" : PySem.Str), ("DIGITS" : PySem.Str), ("MOST_SIGNS" : PySem.Str), ("MOST_LABELS" : PySem.Str), ("MOST_REQUIREMENTS" : PySem.Str), ("MOST_LETTERS" : PySem.Str), ("OPPOSITE" : PySem.Str)] w) run_false run_true w
theorem facts {P : Program} {w : World} {K : PySem.W.Frag} {h : Heap} {mg : Str → Option Value} {f : Addr} (X : K.In h) (G : h.Ns mainGlobals mg) (hfa : mg ("law" : Str) = some (.ref f)) (c : He.SaysX fa fn ts tf exB w h K) :
    ∃ fd : FuncData, (∀ (s : Shared) (v : Value), BindsTo s fd ⟨[v], []⟩ [("_law_script", v)]) ∧ ∀ base : Heap, K.In base → base.Ns mainGlobals mg → FnOk P w K mg base CX0 8 f fd ["_law_script"] (sp_law K) := by
  have cd := c.t.d
  have T : Txt K mg w := ⟨He.glo_ok X G (cd.fact 0 (f := .glo "is_user_name") rfl),
    cd.def_ 0 (d := dd_is_user_name) rfl,
    He.glo_ok X G (cd.fact 1 (f := .glo "is_label_value") rfl),
    cd.def_ 1 (d := dd_is_label_value) rfl,
    He.glo_ok X G (cd.fact 2 (f := .glo "is_labels") rfl),
    cd.def_ 2 (d := dd_is_labels) rfl,
    He.glo_ok X G (cd.fact 3 (f := .glo "requirement") rfl),
    cd.def_ 3 (d := dd_requirement) rfl,
    He.glo_ok X G (cd.fact 4 (f := .glo "rows_of") rfl),
    cd.def_ 4 (d := dd_rows_of) rfl,
    He.glo_ok X G (cd.fact 5 (f := .glo "requirements") rfl),
    cd.def_ 5 (d := dd_requirements) rfl,
    He.glo_ok X G (cd.fact 6 (f := .glo "is_fulfilled") rfl),
    cd.def_ 6 (d := dd_is_fulfilled) rfl,
    He.glo_ok X G (cd.fact 7 (f := .glo "matches") rfl),
    cd.def_ 7 (d := dd_matches) rfl,
    He.glo_ok X G (cd.fact 8 (f := .glo "bound_of") rfl),
    cd.def_ 8 (d := dd_bound_of) rfl,
    He.glo_ok X G (cd.fact 9 (f := .glo "bounds_of") rfl),
    cd.def_ 9 (d := dd_bounds_of) rfl,
    He.glo_ok X G (cd.fact 10 (f := .glo "needed") rfl),
    cd.def_ 10 (d := dd_needed) rfl,
    He.glo_ok X G (cd.fact 11 (f := .glo "labels_for") rfl),
    cd.def_ 11 (d := dd_labels_for) rfl,
    He.glo_ok X G (cd.fact 12 (f := .glo "meets") rfl),
    cd.def_ 12 (d := dd_meets) rfl,
    He.glo_ok X G (cd.fact 13 (f := .glo "covers") rfl),
    cd.def_ 13 (d := dd_covers) rfl,
    He.glo_ok X G (cd.fact 14 (f := .glo "texts_of") rfl),
    cd.def_ 14 (d := dd_texts_of) rfl,
    He.glo_ok X G (cd.fact 15 (f := .glo "normal") rfl),
    cd.def_ 15 (d := dd_normal) rfl,
    He.glo_ok X G (cd.fact 16 (f := .glo "_law_cell_at") rfl),
    cd.def_ 16 (d := dd__law_cell_at) rfl,
    He.glo_ok X G (cd.fact 17 (f := .glo "_law_source") rfl),
    cd.def_ 17 (d := dd__law_source) rfl,
    He.glo_ok X G (cd.fact 18 (f := .glo "_law_draw") rfl),
    cd.def_ 18 (d := dd__law_draw) rfl,
    He.glo_ok X G (cd.fact 19 (f := .glo "_law_pick") rfl),
    cd.def_ 19 (d := dd__law_pick) rfl,
    He.glo_ok X G (cd.fact 20 (f := .glo "_law_value") rfl),
    cd.def_ 20 (d := dd__law_value) rfl,
    He.glo_ok X G (cd.fact 21 (f := .glo "_law_requirement") rfl),
    cd.def_ 21 (d := dd__law_requirement) rfl,
    He.glo_ok X G (cd.fact 22 (f := .glo "_law_text") rfl),
    cd.def_ 22 (d := dd__law_text) rfl,
    He.glo_ok X G (cd.fact 23 (f := .glo "_law_rows") rfl),
    cd.def_ 23 (d := dd__law_rows) rfl,
    He.glo_ok X G (cd.fact 24 (f := .glo "_law_fulfils") rfl),
    cd.def_ 24 (d := dd__law_fulfils) rfl,
    He.glo_ok X G (cd.fact 25 (f := .glo "_law_all_labels") rfl),
    cd.def_ 25 (d := dd__law_all_labels) rfl,
    He.glo_ok X G (cd.fact 26 (f := .glo "_law_needed") rfl),
    cd.def_ 26 (d := dd__law_needed) rfl,
    He.glo_ok X G (cd.fact 27 (f := .glo "_law_is_possible") rfl),
    cd.def_ 27 (d := dd__law_is_possible) rfl,
    He.glo_ok X G (cd.fact 28 (f := .glo "_law_case") rfl),
    cd.def_ 28 (d := dd__law_case) rfl,
    He.glo_ok X G (cd.fact 29 (f := .glo "_law_is_covered") rfl),
    cd.def_ 29 (d := dd__law_is_covered) rfl,
    He.glo_ok X G (cd.fact 30 (f := .glo "_law_normals_right") rfl),
    cd.def_ 30 (d := dd__law_normals_right) rfl,
    He.glo_ok X G (cd.fact 31 (f := .glo "law") rfl),
    cd.def_ 31 (d := dd_law) rfl,
    He.glo_ok X G (cd.fact 32 (f := .glo "PlaneError") rfl),
    He.glo_ok X G (cd.fact 33 (f := .glo "BadSelector") rfl),
    He.glo_ok X G (cd.fact 34 (f := .glo "BadLabels") rfl),
    He.free_ok X G (cd.fact 35 (f := .free "len") rfl),
    He.free_ok X G (cd.fact 36 (f := .free "int") rfl),
    He.free_ok X G (cd.fact 37 (f := .free "str") rfl),
    He.free_ok X G (cd.fact 38 (f := .free "list") rfl),
    He.free_ok X G (cd.fact 39 (f := .free "dict") rfl),
    He.free_ok X G (cd.fact 40 (f := .free "set") rfl),
    He.free_ok X G (cd.fact 41 (f := .free "range") rfl),
    He.free_ok X G (cd.fact 42 (f := .free "isinstance") rfl),
    He.free_ok X G (cd.fact 43 (f := .free "all") rfl),
    He.free_ok X G (cd.fact 44 (f := .free "sorted") rfl),
    He.free_ok X G (cd.fact 45 (f := .free "zip") rfl),
    He.free_ok X G (cd.fact 46 (f := .free "ValueError") rfl),
    He.str_ok X G (cd.fact 47 (f := .str "SMALL" "abcdefghijklmnopqrstuvwxyz") rfl),
    He.str_ok X G (cd.fact 48 (f := .str "DIGITS" "0123456789") rfl),
    He.int_ok X G (cd.fact 49 (f := .int "MOST_SIGNS" 10) rfl),
    He.int_ok X G (cd.fact 50 (f := .int "MOST_LABELS" 8) rfl),
    He.int_ok X G (cd.fact 51 (f := .int "MOST_REQUIREMENTS" 8) rfl),
    He.int_ok X G (cd.fact 52 (f := .int "MOST_LETTERS" 24) rfl),
    He.glo_ok X G (cd.fact 53 (f := .glo "OPPOSITE") rfl),
    c.more,
    c.t.tab 0 rfl⟩
  obtain ⟨fd, F⟩ := T.d_law
  have e := hfa.symm.trans T.g_law
  cases e
  have b := FunD.bindsA (ps := ["_law_script"]) F fun _ _ _ _ _ _ us hl => match us, hl with | [_], _ => rfl
  exact ⟨fd, fun s v => b s [v] rfl, fun base _ _ => ok_law T F⟩
end Lk
open PySem PySem.W PySem.Calls PyProof.Rows
theorem PySem.Challenge.cw_controlplane_k05_whole_eight_names_at_mo_holds : PySem.Challenge.rw_controlplane_k05_whole_eight_names_at_mo.Holds := by
  w_on; o_law
  refine HandSHeadRun.head_any (r := OpenLaw.row PySem.Challenge.rw_controlplane_k05_whole_eight_names_at_mo) (q := view (OpenLaw.row PySem.Challenge.rw_controlplane_k05_whole_eight_names_at_mo).prog [45]) (H := Lk.hk) (ob := Lk.ob) (M := 2000) (loose := [("__name__" : PySem.Str), ("PlaneError" : PySem.Str), ("BadSelector" : PySem.Str), ("BadLabels" : PySem.Str), ("is_user_name" : PySem.Str), ("is_label_value" : PySem.Str), ("is_labels" : PySem.Str), ("requirement" : PySem.Str), ("rows_of" : PySem.Str), ("requirements" : PySem.Str), ("is_fulfilled" : PySem.Str), ("matches" : PySem.Str), ("bound_of" : PySem.Str), ("bounds_of" : PySem.Str), ("needed" : PySem.Str), ("labels_for" : PySem.Str), ("meets" : PySem.Str), ("covers" : PySem.Str), ("texts_of" : PySem.Str), ("normal" : PySem.Str), ("_law_cell_at" : PySem.Str), ("_law_source" : PySem.Str), ("_law_draw" : PySem.Str), ("_law_pick" : PySem.Str), ("_law_value" : PySem.Str), ("_law_requirement" : PySem.Str), ("_law_text" : PySem.Str), ("_law_rows" : PySem.Str), ("_law_fulfils" : PySem.Str), ("_law_all_labels" : PySem.Str), ("_law_needed" : PySem.Str), ("_law_is_possible" : PySem.Str), ("_law_case" : PySem.Str), ("_law_is_covered" : PySem.Str), ("_law_normals_right" : PySem.Str), ("SMALL" : PySem.Str), ("DIGITS" : PySem.Str), ("MOST_SIGNS" : PySem.Str), ("MOST_LABELS" : PySem.Str), ("MOST_REQUIREMENTS" : PySem.Str), ("MOST_LETTERS" : PySem.Str), ("OPPOSITE" : PySem.Str)]) (d := HandSHeadRun.topDef (OpenLaw.row PySem.Challenge.rw_controlplane_k05_whole_eight_names_at_mo).prog 45) (kwd := []) Lk.ob_eq
    (by kernel_rfl) (fun s => by kernel_rfl) Lk.run (by kernel_rfl) (by kernel_rfl) (by kernel_rfl) (by rfl) (by first | assumption | decide +kernel) (by decide +kernel) ⟨rfl, rfl, rfl, rfl, rfl, by decide +kernel⟩ ?hw ?hc
  case hw => w_witness2
  case hc =>
    refine L2.walk_ofE (l := PySem.Challenge.rw_controlplane_k05_whole_eight_names_at_mo) (n := 63) (k := 8) (x := "_law_script") (CX := L2.CX0) rfl (by decide) (by kernel_rfl) ⟨rfl, by decide, by decide⟩ ?F (fun _ _ _ _ z => z)
    intro w mg fa h Y G hmg0
    obtain ⟨K, KX, c⟩ := Y
    have hmg : mg ("law" : PySem.Str) = some (.ref fa) := by
      have e : (HandSHeadRun.topDef (OpenLaw.row PySem.Challenge.rw_controlplane_k05_whole_eight_names_at_mo).prog 45).name = ("law" : PySem.Str) := by kernel_rfl
      rw [← e]
      exact hmg0
    obtain ⟨fd, hb, hF⟩ := Lk.facts (P := (PySem.Challenge.rw_controlplane_k05_whole_eight_names_at_mo).prog) (w := w) KX G hmg c
    exact ⟨K, fd, Lk.sp_law K, KX, hb, fun H a ns hl _ hS => ⟨a, ns, rfl, hS, hl, fun _ => rfl⟩, hF⟩

