import PyProof.Rows.All
import Wide.All
import OpenK.AllK
import Wide.FinOn
import KE.KStateDown
import Lean
import HandS.ForMost
import HandS.Flow
import HandS.Style
import HandS.Wide
import HandS.IsInst
import HandS.TupAny
import HandS.More
import HandS.WordsExc
import HandS.Defaults
import HandS.Lambda
import HandS.Head0
import HandS.Head1
import HandS.Head2
import HandS.HeadEnd
import HandS.HeadHook1
import HandS.HeadHook2
import HandS.EndBits
import HandS.EndTab
import HandS.Walk
import HandS.TryOnly
import HandS.StrSplit
import HandS.ListItems
import HandS.DictComp
import HandS.Set
import HandS.SetTxt0
import HandS.SetBool
import HandS.SetFor
import HandS.Strs
import HandS.Deep
import HandS.Finally
import HandS.Zip
import HandS.Conv
import HandS.NoneIn
import HandS.ExcInit
import HandS.ExcField
import HandS.ExcOwn
import KE.KExcIs
import HandS.HeadHook3
import HandS.HeadHook4
import HandS.HeadWalk
import HandS.WrittenGet
import KE.KRevSl
import KE.KDictZip
import KE.KTurns
import PySem.Challenge.RW_controlplane_k04_whole_selectors_that_me
set_option Elab.async false
set_option linter.all false
set_option maxRecDepth 100000
set_option maxHeartbeats 4000000
namespace Lk
open PySem PySem.Spec PyProof.Rows L2
def topS (i : Nat) : Stmt := PySem.Challenge.pw_controlplane_k04_whole_selectors_that_me.main.body.getD i (.Pass ⟨0, 0, 0, 0⟩)
abbrev s_is_user_name : Stmt := topS 8
abbrev N_is_user_name : List Str := ["value", "sign"]
abbrev ps_is_user_name : List Str := ["value"]
theorem sc_is_user_name : FnScope N_is_user_name ps_is_user_name (defScope s_is_user_name) := ⟨rfl, rfl, rfl, by decide +kernel, rfl, by decide +kernel, by decide +kernel⟩
abbrev s_is_label_value : Stmt := topS 14
abbrev N_is_label_value : List Str := ["value", "sign"]
abbrev ps_is_label_value : List Str := ["value"]
theorem sc_is_label_value : FnScope N_is_label_value ps_is_label_value (defScope s_is_label_value) := ⟨rfl, rfl, rfl, by decide +kernel, rfl, by decide +kernel, by decide +kernel⟩
abbrev s_is_labels : Stmt := topS 15
abbrev N_is_labels : List Str := ["value", "name", "text"]
abbrev ps_is_labels : List Str := ["value"]
theorem sc_is_labels : FnScope N_is_labels ps_is_labels (defScope s_is_labels) := ⟨rfl, rfl, rfl, by decide +kernel, rfl, by decide +kernel, by decide +kernel⟩
abbrev s_requirement : Stmt := topS 16
abbrev N_requirement : List Str := ["text", "found", "name", "value"]
abbrev ps_requirement : List Str := ["text"]
theorem sc_requirement : FnScope N_requirement ps_requirement (defScope s_requirement) := ⟨rfl, rfl, rfl, by decide +kernel, rfl, by decide +kernel, by decide +kernel⟩
abbrev s_rows_of : Stmt := topS 17
abbrev N_rows_of : List Str := ["selector", "parts", "rows", "row", "part"]
abbrev ps_rows_of : List Str := ["selector"]
theorem sc_rows_of : FnScope N_rows_of ps_rows_of (defScope s_rows_of) := ⟨rfl, rfl, rfl, by decide +kernel, rfl, by decide +kernel, by decide +kernel⟩
abbrev s_requirements : Stmt := topS 18
abbrev N_requirements : List Str := ["selector", "found"]
abbrev ps_requirements : List Str := ["selector"]
theorem sc_requirements : FnScope N_requirements ps_requirements (defScope s_requirements) := ⟨rfl, rfl, rfl, by decide +kernel, rfl, by decide +kernel, by decide +kernel⟩
abbrev s_is_fulfilled : Stmt := topS 19
abbrev N_is_fulfilled : List Str := ["row", "labels", "name", "word", "value"]
abbrev ps_is_fulfilled : List Str := ["row", "labels"]
theorem sc_is_fulfilled : FnScope N_is_fulfilled ps_is_fulfilled (defScope s_is_fulfilled) := ⟨rfl, rfl, rfl, by decide +kernel, rfl, by decide +kernel, by decide +kernel⟩
abbrev s_matches : Stmt := topS 20
abbrev N_matches : List Str := ["selector", "labels", "rows", "row"]
abbrev ps_matches : List Str := ["selector", "labels"]
theorem sc_matches : FnScope N_matches ps_matches (defScope s_matches) := ⟨rfl, rfl, rfl, by decide +kernel, rfl, by decide +kernel, by decide +kernel⟩
abbrev s_bound_of : Stmt := topS 21
abbrev N_bound_of : List Str := ["rows", "words", "asked", "excluded", "name", "word", "value"]
abbrev ps_bound_of : List Str := ["rows"]
theorem sc_bound_of : FnScope N_bound_of ps_bound_of (defScope s_bound_of) := ⟨rfl, rfl, rfl, by decide +kernel, rfl, by decide +kernel, by decide +kernel⟩
abbrev s_bounds_of : Stmt := topS 22
abbrev N_bounds_of : List Str := ["rows", "found", "name", "bound", "row"]
abbrev ps_bounds_of : List Str := ["rows"]
theorem sc_bounds_of : FnScope N_bounds_of ps_bounds_of (defScope s_bounds_of) := ⟨rfl, rfl, rfl, by decide +kernel, rfl, by decide +kernel, by decide +kernel⟩
abbrev s_needed : Stmt := topS 23
abbrev N_needed : List Str := ["bounds", "name", "word", "values"]
abbrev ps_needed : List Str := ["bounds"]
theorem sc_needed : FnScope N_needed ps_needed (defScope s_needed) := ⟨rfl, rfl, rfl, by decide +kernel, rfl, by decide +kernel, by decide +kernel⟩
abbrev s_labels_for : Stmt := topS 24
abbrev N_labels_for : List Str := ["bounds", "found", "name", "word", "values", "free", "text"]
abbrev ps_labels_for : List Str := ["bounds"]
theorem sc_labels_for : FnScope N_labels_for ps_labels_for (defScope s_labels_for) := ⟨rfl, rfl, rfl, by decide +kernel, rfl, by decide +kernel, by decide +kernel⟩
abbrev s_meets : Stmt := topS 25
abbrev N_meets : List Str := ["one", "other", "bounds"]
abbrev ps_meets : List Str := ["one", "other"]
theorem sc_meets : FnScope N_meets ps_meets (defScope s_meets) := ⟨rfl, rfl, rfl, by decide +kernel, rfl, by decide +kernel, by decide +kernel⟩
abbrev s_covers : Stmt := topS 26
abbrev N_covers : List Str := ["one", "other", "rows", "others", "name", "word", "value", "bounds"]
abbrev ps_covers : List Str := ["one", "other"]
theorem sc_covers : FnScope N_covers ps_covers (defScope s_covers) := ⟨rfl, rfl, rfl, by decide +kernel, rfl, by decide +kernel, by decide +kernel⟩
abbrev s__law_cell_at : Stmt := topS 28
abbrev N__law_cell_at : List Str := ["_law_script", "_law_k"]
abbrev ps__law_cell_at : List Str := ["_law_script", "_law_k"]
theorem sc__law_cell_at : FnScope N__law_cell_at ps__law_cell_at (defScope s__law_cell_at) := ⟨rfl, rfl, rfl, by decide +kernel, rfl, by decide +kernel, by decide +kernel⟩
abbrev s__law_source : Stmt := topS 29
abbrev N__law_source : List Str := ["_law_cell"]
abbrev ps__law_source : List Str := ["_law_cell"]
theorem sc__law_source : FnScope N__law_source ps__law_source (defScope s__law_source) := ⟨rfl, rfl, rfl, by decide +kernel, rfl, by decide +kernel, by decide +kernel⟩
abbrev s__law_draw : Stmt := topS 30
abbrev N__law_draw : List Str := ["_law_source_here", "_law_size", "_law_digit", "_law_number"]
abbrev ps__law_draw : List Str := ["_law_source_here", "_law_size"]
theorem sc__law_draw : FnScope N__law_draw ps__law_draw (defScope s__law_draw) := ⟨rfl, rfl, rfl, by decide +kernel, rfl, by decide +kernel, by decide +kernel⟩
abbrev s__law_pick : Stmt := topS 31
abbrev N__law_pick : List Str := ["_law_source_here", "_law_items"]
abbrev ps__law_pick : List Str := ["_law_source_here", "_law_items"]
theorem sc__law_pick : FnScope N__law_pick ps__law_pick (defScope s__law_pick) := ⟨rfl, rfl, rfl, by decide +kernel, rfl, by decide +kernel, by decide +kernel⟩
abbrev s__law_value : Stmt := topS 32
abbrev N__law_value : List Str := ["_law_source_here"]
abbrev ps__law_value : List Str := ["_law_source_here"]
theorem sc__law_value : FnScope N__law_value ps__law_value (defScope s__law_value) := ⟨rfl, rfl, rfl, by decide +kernel, rfl, by decide +kernel, by decide +kernel⟩
abbrev s__law_requirement : Stmt := topS 33
abbrev N__law_requirement : List Str := ["_law_source_here", "_law_names", "_law_name", "_law_verb"]
abbrev ps__law_requirement : List Str := ["_law_source_here", "_law_names"]
theorem sc__law_requirement : FnScope N__law_requirement ps__law_requirement (defScope s__law_requirement) := ⟨rfl, rfl, rfl, by decide +kernel, rfl, by decide +kernel, by decide +kernel⟩
abbrev s__law_text : Stmt := topS 34
abbrev N__law_text : List Str := ["_law_rows_here", "_law_found", "_law_name", "_law_verb", "_law_value_here", "_law_mark"]
abbrev ps__law_text : List Str := ["_law_rows_here"]
theorem sc__law_text : FnScope N__law_text ps__law_text (defScope s__law_text) := ⟨rfl, rfl, rfl, by decide +kernel, rfl, by decide +kernel, by decide +kernel⟩
abbrev s__law_rows : Stmt := topS 35
abbrev N__law_rows : List Str := ["_law_source_here", "_law_names", "_law_most", "_law_k"]
abbrev ps__law_rows : List Str := ["_law_source_here", "_law_names", "_law_most"]
theorem sc__law_rows : FnScope N__law_rows ps__law_rows (defScope s__law_rows) := ⟨rfl, rfl, rfl, by decide +kernel, rfl, by decide +kernel, by decide +kernel⟩
abbrev s__law_fulfils : Stmt := topS 36
abbrev N__law_fulfils : List Str := ["_law_rows_here", "_law_labels", "_law_name", "_law_verb", "_law_value_here"]
abbrev ps__law_fulfils : List Str := ["_law_rows_here", "_law_labels"]
theorem sc__law_fulfils : FnScope N__law_fulfils ps__law_fulfils (defScope s__law_fulfils) := ⟨rfl, rfl, rfl, by decide +kernel, rfl, by decide +kernel, by decide +kernel⟩
abbrev s__law_all_labels : Stmt := topS 37
abbrev N__law_all_labels : List Str := ["_law_names", "_law_values", "_law_found", "_law_name", "_law_more", "_law_labels", "_law_value_here"]
abbrev ps__law_all_labels : List Str := ["_law_names", "_law_values"]
theorem sc__law_all_labels : FnScope N__law_all_labels ps__law_all_labels (defScope s__law_all_labels) := ⟨rfl, rfl, rfl, by decide +kernel, rfl, by decide +kernel, by decide +kernel⟩
abbrev s__law_crowded : Stmt := topS 38
abbrev N__law_crowded : List Str := ["_law_source_here", "_law_found", "_law_value_here"]
abbrev ps__law_crowded : List Str := ["_law_source_here"]
theorem sc__law_crowded : FnScope N__law_crowded ps__law_crowded (defScope s__law_crowded) := ⟨rfl, rfl, rfl, by decide +kernel, rfl, by decide +kernel, by decide +kernel⟩
abbrev s_law : Stmt := topS 39
abbrev N_law : List Str := ["_law_script", "_law_cell", "_law_source_here", "_law_names", "_law_one", "_law_other", "_law_values", "_law_tried", "_law_flags", "_law_sides", "_law_at", "_law_place", "_law_mine", "_law_its", "_law_text_here", "_law_second", "_law_pairs", "_law_told", "_law_witness", "_law_labels", "_law_row", "_law_rows_here"]
abbrev ps_law : List Str := ["_law_script"]
theorem sc_law : FnScope N_law ps_law (defScope s_law) := ⟨rfl, rfl, rfl, by decide +kernel, rfl, by decide +kernel, by decide +kernel⟩
abbrev FnP (K : PySem.W.Frag) (x : Str) (st : Stmt) (dvs : List V) (fd : FuncData) : Prop := FunD K x x (defArgs st) (defBody st) (defScope st) dvs [] (He.ga K x) fd
/-! ### a hook that looks at the statics too -/
abbrev asY (g : Addr → Option Obj) : List Addr := cStatics :: He.asD g 6
def obsY (fa : List He.Fa) (fn : List He.DefD) (ts : List He.Tab) (tf : List He.Defn) (ex : PySem.W.Frag → Bool) (g : Addr → Option Obj) : He.AlX :=
  (He.obsT fa fn ts (He.frT g (asY g)), ex (He.frT g (asY g)) && He.tabsB g tf (He.frT g (asY g)))
theorem saysY {fa : List He.Fa} {fn : List He.DefD} {ts : List He.Tab} {tf : List He.Defn} {ex : PySem.W.Frag → Bool} {w : World} {h : Heap} (e : obsY fa fn ts tf ex h.get? = He.valX fn ts w) : He.SaysX fa fn ts tf ex w h (He.frT h.get? (asY h.get?)) := by
  have both : (ex (He.frT h.get? (asY h.get?)) && He.tabsB h.get? tf (He.frT h.get? (asY h.get?))) = true := congrArg (fun z : He.AlX => z.2) e
  obtain ⟨hx, ht⟩ := Bool.and_eq_true_iff.mp both
  have one : ∀ p ∈ tf, PySem.W.codeHdIn (He.frT h.get? (asY h.get?)) (He.cT (He.frT h.get? (asY h.get?)) p).1 (He.cT (He.frT h.get? (asY h.get?)) p).2 = true ∧ ∃ o, h.get? (He.cT (He.frT h.get? (asY h.get?)) p).2 = some o ∧ He.emptyTab o = true := by
    intro p hp
    obtain ⟨a1, a2⟩ := Bool.and_eq_true_iff.mp (List.all_eq_true.mp ht p hp)
    refine ⟨a1, ?_⟩
    split at a2
    · rename_i o q
      exact ⟨o, q, a2⟩
    · cases a2
  refine ⟨congrArg (fun z : He.AlX => z.1) e, hx, fun p hp => (one p hp).1, ?_, ?_⟩
  · intro p hp
    obtain ⟨_, o, q, z⟩ := one p hp
    exact He.frT_none (o := o) q z
  · intro p hp
    obtain ⟨_, o, q, z⟩ := one p hp
    exact q.trans (congrArg some (He.emptyTab_eq z))
def hookY (fa : List He.Fa) (fn : List He.DefD) (ts : List He.Tab) (tf : List He.Defn) (ex : PySem.W.Frag → Bool) : PySem.W.Hook :=
  { α := He.AlX, obs := fun s => obsY fa fn ts tf ex s.heap.get?, val := fun w => He.valX fn ts w, says := fun w h => ∃ K : PySem.W.Frag, K.In h ∧ He.SaysX fa fn ts tf ex w h K,
    of := fun _ _ e => ⟨_, He.frT_in, saysY e⟩,
    keeps := fun _ _ _ hk k => hk.elim fun K hc => ⟨K, PySem.W.Frag.In.keeps hc.1 k, ⟨hc.2.t, hc.2.more, hc.2.hd, hc.2.out, fun p hp => k _ _ (hc.2.empty p hp)⟩⟩ }
theorem obsY_eq {fa : List He.Fa} {fn : List He.DefD} {ts : List He.Tab} {tf : List He.Defn} {ex : PySem.W.Frag → Bool} {g : Addr → Option Obj} {s : Shared} (h : ∀ a, g a = s.heap.get? a) : obsY fa fn ts tf ex g = (hookY fa fn ts tf ex).obs s := by
  rw [show g = s.heap.get? from funext h]
  rfl
/-! the class at C is an own exception class over ValueError: field by field, each field by a look of its own -/
def lookCls (o : Obj) : Option ClassData := match o.data with | .cls cd => some cd | _ => none
def lookTail (C : Addr) : List Value → Option (List Value)
  | .ref b :: bm => if b = C then some bm else none
  | _ => none
abbrev Slot5 : Type := Option Value × Option Value × Option Value × Option Value × Option Value
def lookSlots (l : List (Option Value)) : Option Slot5 := match l with
  | [k0, k1, k2, k3, some (.builtin n), k5] => if n = "ValueError.__new__" then some (k0, k1, k2, k3, k5) else none
  | _ => none
theorem lookCls_of {o : Obj} {cd : ClassData} (h : lookCls o = some cd) : o.data = .cls cd := by
  unfold lookCls at h; split at h <;> first | (cases h; assumption) | cases h
theorem lookTail_of {C : Addr} : ∀ {l bm : List Value}, lookTail C l = some bm → l = .ref C :: bm := by
  intro l bm h; unfold lookTail at h; split at h
  · split at h <;> first | (subst_vars; cases h; rfl) | cases h
  · cases h
theorem lookSlots_of {l : List (Option Value)} {k : Slot5} (h : lookSlots l = some k) : l = [k.1, k.2.1, k.2.2.1, k.2.2.2.1, some (.builtin "ValueError.__new__"), k.2.2.2.2] := by
  unfold lookSlots at h; split at h
  · split at h <;> first | (subst_vars; cases h; rfl) | cases h
  · cases h
def oexAt (C : Addr) (o : Obj) : Bool := match lookCls o, lookSlots o.slots.toList with
  | some cd, some _ => (match lookTail C cd.mro with | some bm => PySem.HandSPX.refsVE bm | none => false) && (cd.hasDict && (!cd.hasDel && decide (o.cls = .type "type")))
  | _, _ => false
def oexB (K : PySem.W.Frag) (C : Addr) : Bool := (match K.lookup C with | some o => oexAt C o | none => false) && (decide (PySem.W.findIn K (.ref C) "__setattr__" = some (some (.builtin "object.__setattr__"))) && (decide (PySem.W.subIn K (.ref C) (.type "BaseException") = some true) && (decide (PySem.W.typeIn K (.ref C) = some (.type "type")) && PySem.W.keepIn K (.ref C))))
/-- the parts put together again -/
theorem oexAt_of {C : Addr} {o : Obj} (h : oexAt C o = true) : ∃ nm q N bs bm sn sub ab col dd k0 k1 k2 k3 k5, o = excClassObj nm q C N bs bm true sn sub ab col dd k0 k1 k2 k3 k5 "ValueError.__new__" ∧ PySem.HandSPX.refsVE bm = true := by
  unfold oexAt at h
  cases e1 : lookCls o with
  | none => rw [e1] at h; exact Bool.noConfusion h
  | some cd =>
    cases e2 : lookSlots o.slots.toList with
    | none => rw [e1, e2] at h; exact Bool.noConfusion h
    | some k =>
      rw [e1, e2] at h
      have ⟨tail, h⟩ := Bool.and_eq_true_iff.mp h
      have ⟨hasD, h⟩ := Bool.and_eq_true_iff.mp h
      have ⟨noDel, ty⟩ := Bool.and_eq_true_iff.mp h
      cases e3 : lookTail C cd.mro with
      | none => rw [e3] at tail; exact Bool.noConfusion tail
      | some bm =>
        rw [e3] at tail
        have data := lookCls_of e1
        have slots := lookSlots_of e2
        have mro := lookTail_of e3
        have tyE := of_decide_eq_true ty
        clear ty
        have dele : cd.hasDel = false := (Bool.not_eq_true' _).mp noDel
        clear noDel e1 e2 e3 h
        refine ⟨cd.name, cd.qualname, cd.ns, cd.bases, bm, cd.slotNames, cd.subclasses, cd.abstract, cd.collection, o.dict, k.1, k.2.1, k.2.2.1, k.2.2.2.1, k.2.2.2.2, ?_, tail⟩
        obtain ⟨ocls, odict, odata, ⟨osl⟩⟩ := o
        obtain ⟨nm, bs, mr, nsp, qn, hd, sn, sub, ab, col, del⟩ := cd
        dsimp only at data slots mro tyE dele hasD ⊢
        subst data slots mro tyE dele hasD
        rfl
theorem oexB_ok {K : PySem.W.Frag} {C : Addr} (h : oexB K C = true) : OexC K C := by
  unfold oexB at h
  have ⟨at_, h⟩ := Bool.and_eq_true_iff.mp h
  have ⟨sa, h⟩ := Bool.and_eq_true_iff.mp h
  have ⟨exC, h⟩ := Bool.and_eq_true_iff.mp h
  have ⟨tyC, kC⟩ := Bool.and_eq_true_iff.mp h
  cases look : K.lookup C with
  | none => rw [look] at at_; exact Bool.noConfusion at_
  | some o =>
    rw [look] at at_
    have ⟨nm, q, N, bs, bm, sn, sub, ab, col, dd, k0, k1, k2, k3, k5, e, ve⟩ := oexAt_of at_
    exact ⟨⟨nm, q, N, bs, bm, sn, sub, ab, col, dd, k0, k1, k2, k3, k5, e ▸ look, ve⟩, of_decide_eq_true sa, of_decide_eq_true exC, of_decide_eq_true tyC, kC⟩
/-- what isinstance and the fields of a caught error ask of its class -/
def excB (K : PySem.W.Frag) (C : Addr) : Bool := (PySem.W.clsIn K C).isSome && (xfB K C && (decide (PySem.W.findIn K (.ref C) "__class__" = some (some (.builtin "object.__class__"))) &&
  (decide (PySem.W.specialIn K (.builtin "object.__class__") "__get__" = some (some (.builtin "getset_descriptor.__get__"))) && (decide (PySem.W.takesIn K (.builtin "object.__class__") = some true) && decide (PySem.W.mroIn K C (.type "object") = some true)))))
def veiB (K : PySem.W.Frag) : Bool := match PySem.W.findCls K (.type "ValueError") (.type "type") "__init__" with
  | some (.val (.builtin x)) => decide (x = "ValueError.__init__")
  | _ => false
theorem veiB_ok {K : PySem.W.Frag} (h : veiB K = true) : PySem.W.findCls K (.type "ValueError") (.type "type") "__init__" = some (.val (.builtin "ValueError.__init__")) := by
  unfold veiB at h
  split at h
  · rename_i x e
    rw [e, of_decide_eq_true h]
  · cases h
def cfB (K : PySem.W.Frag) (C f : Addr) : Bool := match PySem.W.findCls K (.ref C) (.type "type") "__init__" with
  | some (.val (.ref x)) => decide (x = f)
  | _ => false
theorem cfB_ok {K : PySem.W.Frag} {C f : Addr} (h : cfB K C f = true) : PySem.W.findCls K (.ref C) (.type "type") "__init__" = some (.val (.ref f)) := by
  unfold cfB at h
  split at h
  · rename_i x e
    rw [e, of_decide_eq_true h]
  · cases h
def exL (K : PySem.W.Frag) : List Bool := [veiB K,
  He.valsB K (He.ga K "OPPOSITE") [("is", .str "not"), ("not", .str "is"), ("there", .str "missing"), ("missing", .str "there")]]
def exB (K : PySem.W.Frag) : Bool := (exL K).all id
theorem exAt {K : PySem.W.Frag} (h : exB K = true) (i : Nat) {b : Bool} (e : (exL K)[i]? = some b) : b = true := List.all_eq_true.mp h b (List.mem_of_getElem? e)
structure ExT (K : PySem.W.Frag) : Prop where
  vei : PySem.W.findCls K (.type "ValueError") (.type "type") "__init__" = some (.val (.builtin "ValueError.__init__"))
  val_OPPOSITE : He.valsB K (He.ga K "OPPOSITE") [("is", .str "not"), ("not", .str "is"), ("there", .str "missing"), ("missing", .str "there")] = true
theorem exT {K : PySem.W.Frag} (h : exB K = true) : ExT K := ⟨veiB_ok (exAt h 0 rfl),
  id (exAt h 1 rfl)⟩
structure Txt (K : PySem.W.Frag) (mg : Str → Option Value) (w : World) : Prop where
  g_is_user_name : mg "is_user_name" = some (.ref (He.ga K "is_user_name"))
  d_is_user_name : ∃ fd, FnP K "is_user_name" s_is_user_name [] fd
  g_is_label_value : mg "is_label_value" = some (.ref (He.ga K "is_label_value"))
  d_is_label_value : ∃ fd, FnP K "is_label_value" s_is_label_value [] fd
  g_is_labels : mg "is_labels" = some (.ref (He.ga K "is_labels"))
  d_is_labels : ∃ fd, FnP K "is_labels" s_is_labels [] fd
  g_requirement : mg "requirement" = some (.ref (He.ga K "requirement"))
  d_requirement : ∃ fd, FnP K "requirement" s_requirement [] fd
  g_rows_of : mg "rows_of" = some (.ref (He.ga K "rows_of"))
  d_rows_of : ∃ fd, FnP K "rows_of" s_rows_of [] fd
  g_requirements : mg "requirements" = some (.ref (He.ga K "requirements"))
  d_requirements : ∃ fd, FnP K "requirements" s_requirements [] fd
  g_is_fulfilled : mg "is_fulfilled" = some (.ref (He.ga K "is_fulfilled"))
  d_is_fulfilled : ∃ fd, FnP K "is_fulfilled" s_is_fulfilled [] fd
  g_matches : mg "matches" = some (.ref (He.ga K "matches"))
  d_matches : ∃ fd, FnP K "matches" s_matches [] fd
  g_bound_of : mg "bound_of" = some (.ref (He.ga K "bound_of"))
  d_bound_of : ∃ fd, FnP K "bound_of" s_bound_of [] fd
  g_bounds_of : mg "bounds_of" = some (.ref (He.ga K "bounds_of"))
  d_bounds_of : ∃ fd, FnP K "bounds_of" s_bounds_of [] fd
  g_needed : mg "needed" = some (.ref (He.ga K "needed"))
  d_needed : ∃ fd, FnP K "needed" s_needed [] fd
  g_labels_for : mg "labels_for" = some (.ref (He.ga K "labels_for"))
  d_labels_for : ∃ fd, FnP K "labels_for" s_labels_for [] fd
  g_meets : mg "meets" = some (.ref (He.ga K "meets"))
  d_meets : ∃ fd, FnP K "meets" s_meets [] fd
  g_covers : mg "covers" = some (.ref (He.ga K "covers"))
  d_covers : ∃ fd, FnP K "covers" s_covers [] fd
  g__law_cell_at : mg "_law_cell_at" = some (.ref (He.ga K "_law_cell_at"))
  d__law_cell_at : ∃ fd, FnP K "_law_cell_at" s__law_cell_at [] fd
  g__law_source : mg "_law_source" = some (.ref (He.ga K "_law_source"))
  d__law_source : ∃ fd, FnP K "_law_source" s__law_source [] fd
  g__law_draw : mg "_law_draw" = some (.ref (He.ga K "_law_draw"))
  d__law_draw : ∃ fd, FnP K "_law_draw" s__law_draw [] fd
  g__law_pick : mg "_law_pick" = some (.ref (He.ga K "_law_pick"))
  d__law_pick : ∃ fd, FnP K "_law_pick" s__law_pick [] fd
  g__law_value : mg "_law_value" = some (.ref (He.ga K "_law_value"))
  d__law_value : ∃ fd, FnP K "_law_value" s__law_value [] fd
  g__law_requirement : mg "_law_requirement" = some (.ref (He.ga K "_law_requirement"))
  d__law_requirement : ∃ fd, FnP K "_law_requirement" s__law_requirement [] fd
  g__law_text : mg "_law_text" = some (.ref (He.ga K "_law_text"))
  d__law_text : ∃ fd, FnP K "_law_text" s__law_text [] fd
  g__law_rows : mg "_law_rows" = some (.ref (He.ga K "_law_rows"))
  d__law_rows : ∃ fd, FnP K "_law_rows" s__law_rows [] fd
  g__law_fulfils : mg "_law_fulfils" = some (.ref (He.ga K "_law_fulfils"))
  d__law_fulfils : ∃ fd, FnP K "_law_fulfils" s__law_fulfils [] fd
  g__law_all_labels : mg "_law_all_labels" = some (.ref (He.ga K "_law_all_labels"))
  d__law_all_labels : ∃ fd, FnP K "_law_all_labels" s__law_all_labels [] fd
  g__law_crowded : mg "_law_crowded" = some (.ref (He.ga K "_law_crowded"))
  d__law_crowded : ∃ fd, FnP K "_law_crowded" s__law_crowded [] fd
  g_law : mg "law" = some (.ref (He.ga K "law"))
  d_law : ∃ fd, FnP K "law" s_law [] fd
  g_PlaneError : mg "PlaneError" = some (.ref (He.ga K "PlaneError"))
  g_BadSelector : mg "BadSelector" = some (.ref (He.ga K "BadSelector"))
  g_BadLabels : mg "BadLabels" = some (.ref (He.ga K "BadLabels"))
  n_len : mg "len" = none
  n_int : mg "int" = none
  n_str : mg "str" = none
  n_list : mg "list" = none
  n_dict : mg "dict" = none
  n_set : mg "set" = none
  n_range : mg "range" = none
  n_isinstance : mg "isinstance" = none
  n_all : mg "all" = none
  n_sorted : mg "sorted" = none
  n_zip : mg "zip" = none
  n_ValueError : mg "ValueError" = none
  c_SMALL : ∃ t, mg "SMALL" = some (.str "abcdefghijklmnopqrstuvwxyz" t)
  c_DIGITS : ∃ t, mg "DIGITS" = some (.str "0123456789" t)
  c_MOST_SIGNS : ∃ t, mg "MOST_SIGNS" = some (.int 10 t)
  c_MOST_LABELS : ∃ t, mg "MOST_LABELS" = some (.int 8 t)
  c_MOST_REQUIREMENTS : ∃ t, mg "MOST_REQUIREMENTS" = some (.int 8 t)
  c_MOST_LETTERS : ∃ t, mg "MOST_LETTERS" = some (.int 24 t)
  g_OPPOSITE : mg "OPPOSITE" = some (.ref (He.ga K "OPPOSITE"))
  ex : exB K = true
  kd_OPPOSITE : ∃ es n, KDict K w (He.ga K "OPPOSITE") es n
theorem bi_is_user_name {K : PySem.W.Frag} {fd : FuncData} (F : FnP K "is_user_name" s_is_user_name [] fd) : Binds K fd ps_is_user_name [] := F.bindsN (fun _ _ _ _ _ _ us hl => match us, hl with | [_], _ => rfl)
theorem bi_is_label_value {K : PySem.W.Frag} {fd : FuncData} (F : FnP K "is_label_value" s_is_label_value [] fd) : Binds K fd ps_is_label_value [] := F.bindsN (fun _ _ _ _ _ _ us hl => match us, hl with | [_], _ => rfl)
theorem bi_is_labels {K : PySem.W.Frag} {fd : FuncData} (F : FnP K "is_labels" s_is_labels [] fd) : Binds K fd ps_is_labels [] := F.bindsN (fun _ _ _ _ _ _ us hl => match us, hl with | [_], _ => rfl)
theorem bi_requirement {K : PySem.W.Frag} {fd : FuncData} (F : FnP K "requirement" s_requirement [] fd) : Binds K fd ps_requirement [] := F.bindsN (fun _ _ _ _ _ _ us hl => match us, hl with | [_], _ => rfl)
theorem bi_rows_of {K : PySem.W.Frag} {fd : FuncData} (F : FnP K "rows_of" s_rows_of [] fd) : Binds K fd ps_rows_of [] := F.bindsN (fun _ _ _ _ _ _ us hl => match us, hl with | [_], _ => rfl)
theorem bi_requirements {K : PySem.W.Frag} {fd : FuncData} (F : FnP K "requirements" s_requirements [] fd) : Binds K fd ps_requirements [] := F.bindsN (fun _ _ _ _ _ _ us hl => match us, hl with | [_], _ => rfl)
theorem bi_is_fulfilled {K : PySem.W.Frag} {fd : FuncData} (F : FnP K "is_fulfilled" s_is_fulfilled [] fd) : Binds K fd ps_is_fulfilled [] := F.bindsN (fun _ _ _ _ _ _ us hl => match us, hl with | [_, _], _ => rfl)
theorem bi_matches {K : PySem.W.Frag} {fd : FuncData} (F : FnP K "matches" s_matches [] fd) : Binds K fd ps_matches [] := F.bindsN (fun _ _ _ _ _ _ us hl => match us, hl with | [_, _], _ => rfl)
theorem bi_bound_of {K : PySem.W.Frag} {fd : FuncData} (F : FnP K "bound_of" s_bound_of [] fd) : Binds K fd ps_bound_of [] := F.bindsN (fun _ _ _ _ _ _ us hl => match us, hl with | [_], _ => rfl)
theorem bi_bounds_of {K : PySem.W.Frag} {fd : FuncData} (F : FnP K "bounds_of" s_bounds_of [] fd) : Binds K fd ps_bounds_of [] := F.bindsN (fun _ _ _ _ _ _ us hl => match us, hl with | [_], _ => rfl)
theorem bi_needed {K : PySem.W.Frag} {fd : FuncData} (F : FnP K "needed" s_needed [] fd) : Binds K fd ps_needed [] := F.bindsN (fun _ _ _ _ _ _ us hl => match us, hl with | [_], _ => rfl)
theorem bi_labels_for {K : PySem.W.Frag} {fd : FuncData} (F : FnP K "labels_for" s_labels_for [] fd) : Binds K fd ps_labels_for [] := F.bindsN (fun _ _ _ _ _ _ us hl => match us, hl with | [_], _ => rfl)
theorem bi_meets {K : PySem.W.Frag} {fd : FuncData} (F : FnP K "meets" s_meets [] fd) : Binds K fd ps_meets [] := F.bindsN (fun _ _ _ _ _ _ us hl => match us, hl with | [_, _], _ => rfl)
theorem bi_covers {K : PySem.W.Frag} {fd : FuncData} (F : FnP K "covers" s_covers [] fd) : Binds K fd ps_covers [] := F.bindsN (fun _ _ _ _ _ _ us hl => match us, hl with | [_, _], _ => rfl)
theorem bi__law_cell_at {K : PySem.W.Frag} {fd : FuncData} (F : FnP K "_law_cell_at" s__law_cell_at [] fd) : Binds K fd ps__law_cell_at [] := F.bindsN (fun _ _ _ _ _ _ us hl => match us, hl with | [_, _], _ => rfl)
theorem bi__law_source {K : PySem.W.Frag} {fd : FuncData} (F : FnP K "_law_source" s__law_source [] fd) : Binds K fd ps__law_source [] := F.bindsN (fun _ _ _ _ _ _ us hl => match us, hl with | [_], _ => rfl)
theorem bi__law_draw {K : PySem.W.Frag} {fd : FuncData} (F : FnP K "_law_draw" s__law_draw [] fd) : Binds K fd ps__law_draw [] := F.bindsN (fun _ _ _ _ _ _ us hl => match us, hl with | [_, _], _ => rfl)
theorem bi__law_pick {K : PySem.W.Frag} {fd : FuncData} (F : FnP K "_law_pick" s__law_pick [] fd) : Binds K fd ps__law_pick [] := F.bindsN (fun _ _ _ _ _ _ us hl => match us, hl with | [_, _], _ => rfl)
theorem bi__law_value {K : PySem.W.Frag} {fd : FuncData} (F : FnP K "_law_value" s__law_value [] fd) : Binds K fd ps__law_value [] := F.bindsN (fun _ _ _ _ _ _ us hl => match us, hl with | [_], _ => rfl)
theorem bi__law_requirement {K : PySem.W.Frag} {fd : FuncData} (F : FnP K "_law_requirement" s__law_requirement [] fd) : Binds K fd ps__law_requirement [] := F.bindsN (fun _ _ _ _ _ _ us hl => match us, hl with | [_, _], _ => rfl)
theorem bi__law_text {K : PySem.W.Frag} {fd : FuncData} (F : FnP K "_law_text" s__law_text [] fd) : Binds K fd ps__law_text [] := F.bindsN (fun _ _ _ _ _ _ us hl => match us, hl with | [_], _ => rfl)
theorem bi__law_rows {K : PySem.W.Frag} {fd : FuncData} (F : FnP K "_law_rows" s__law_rows [] fd) : Binds K fd ps__law_rows [] := F.bindsN (fun _ _ _ _ _ _ us hl => match us, hl with | [_, _, _], _ => rfl)
theorem bi__law_fulfils {K : PySem.W.Frag} {fd : FuncData} (F : FnP K "_law_fulfils" s__law_fulfils [] fd) : Binds K fd ps__law_fulfils [] := F.bindsN (fun _ _ _ _ _ _ us hl => match us, hl with | [_, _], _ => rfl)
theorem bi__law_all_labels {K : PySem.W.Frag} {fd : FuncData} (F : FnP K "_law_all_labels" s__law_all_labels [] fd) : Binds K fd ps__law_all_labels [] := F.bindsN (fun _ _ _ _ _ _ us hl => match us, hl with | [_, _], _ => rfl)
theorem bi__law_crowded {K : PySem.W.Frag} {fd : FuncData} (F : FnP K "_law_crowded" s__law_crowded [] fd) : Binds K fd ps__law_crowded [] := F.bindsN (fun _ _ _ _ _ _ us hl => match us, hl with | [_], _ => rfl)
theorem bi_law {K : PySem.W.Frag} {fd : FuncData} (F : FnP K "law" s_law [] fd) : Binds K fd ps_law [] := F.bindsN (fun _ _ _ _ _ _ us hl => match us, hl with | [_], _ => rfl)

/-! ### the heap: what a def with a source of draws leaves -/
/-- all that was tracked, but what stands at a, is as it was -/
def Keep (a : Addr) (H H' : Hp) : Prop := ∀ b o, b ≠ a → H b = some o → H' b = some o
theorem Keep.refl (a : Addr) (H : Hp) : Keep a H H := fun _ _ _ h => h
theorem Keep.trans {a : Addr} {H H1 H2 : Hp} (x : Keep a H H1) (y : Keep a H1 H2) : Keep a H H2 := fun b o n h => y b o n (x b o n h)
theorem Keep.of {a : Addr} {H H1 : Hp} (x : Same H H1) : Keep a H H1 := fun b o _ h => x b o h
theorem Keep.at_ {a : Addr} {H : Hp} {u : HO} : Keep a H (upd H a u) := fun b o n h => by rw [upd_ne n]; exact h
theorem Same.new {H : Hp} {p : Addr} {u : HO} (n : H p = none) : Same H (upd H p u) := fun b o h => by rw [upd_ne (ne_of_none h n)]; exact h
theorem Keep.new {a : Addr} {H : Hp} {p : Addr} {u : HO} (n : H p = none) : Keep a H (upd H p u) := Keep.of (Same.new n)
theorem Keep.seqL {K : PySem.W.Frag} {a b : Addr} {H H1 : Hp} {xs : List V} (x : Keep a H H1) (n : b ≠ a) (h : SqL K H b xs) : SqL K H1 b xs := by
  rcases h with (h | ⟨o, h⟩) | h
  · exact .inl (.inl (x _ _ n h))
  · exact .inl (.inr ⟨o, x _ _ n h⟩)
  · exact .inr h
theorem Keep.seqT {K : PySem.W.Frag} {a b : Addr} {H H1 : Hp} {xs : List V} (x : Keep a H H1) (n : b ≠ a) (h : SqT K H b xs) : SqT K H1 b xs := by
  rcases h with (h | ⟨o, h⟩) | h
  · exact .inl (.inl (x _ _ n h))
  · exact .inl (.inr ⟨o, x _ _ n h⟩)
  · exact .inr h
/-- a flat value: None, a bool, an int, a text -/
def flat : V → Prop
  | .non => True
  | .bl _ => True
  | .int _ => True
  | .str _ => True
  | _ => False
def tyNm : V → Value
  | .non => .type "NoneType"
  | .bl _ => .type "bool"
  | .int _ => .type "int"
  | _ => .type "str"
theorem flat_ty {K : PySem.W.Frag} {H : Hp} {x : V} (h : flat x) : TyX K H x (tyNm x) := by
  cases x with
  | non => exact .base .non
  | bl b => exact .base (.bl b)
  | int i => exact .base (.int i)
  | str z => exact .base (.str z)
  | byt _ => exact h.elim
  | flt _ => exact h.elim
  | ref _ => exact h.elim
  | ty _ => exact h.elim
theorem small3 : (3 : Nat) ≤ sizeLine := by rw [sizeLine_eq]; decide
theorem smallN {n : Nat} (h : n ≤ 1000) : n ≤ sizeLine := Nat.le_of_lt (small1000 h)
theorem yes_ {σ : L2.St} {H : Hp} {Q : Bool → Hp → Prop} (h : Q true H) : tYes σ H Q := h
theorem get_take {α : Type} {xs : List α} {i : Nat} {x : α} (h : xs[i]? = some x) : xs.take (i + 1) = xs.take i ++ [x] := by
  rw [List.take_succ, h]; rfl
theorem mem_at {α : Type} {xs : List α} {i : Nat} {x : α} (h : xs[i]? = some x) : x ∈ xs := List.mem_of_getElem? h
theorem lt_at {α : Type} {xs : List α} {i : Nat} {x : α} (h : xs[i]? = some x) : i < xs.length := (List.getElem?_eq_some_iff.mp h).1
/-! ### flat values as data -/
def dOf : V → PyData
  | .bl b => .bool b
  | .int i => .int i
  | .str z => .str z
  | _ => .none
theorem dp_flat {K : PySem.W.Frag} {H : Hp} {x : V} (h : flat x) : Dp K H x (dOf x) := by
  cases x with
  | non => exact .non
  | bl b => exact .bl b
  | int i => exact .int i
  | str z => exact .str z
  | byt _ => exact h.elim
  | flt _ => exact h.elim
  | ref _ => exact h.elim
  | ty _ => exact h.elim
theorem dps_flat {K : PySem.W.Frag} {H : Hp} : ∀ {xs : List V}, (∀ x ∈ xs, flat x) → DpAll K H xs (xs.map dOf)
  | [], _ => .nil
  | x :: xs, h => .cons (dp_flat (h x (List.mem_cons_self ..))) (dps_flat fun y hy => h y (List.mem_cons_of_mem _ hy))
/-- a text of signs that there are -/
def okS : V → Prop
  | .str z => PyData.strOk z = true
  | _ => True
theorem lay_flat {x : V} (h : okS x) : (dOf x).canLay0 = true := by
  cases x with
  | str z => exact (show PyData.canLay0 (.str z) = true by simpa [PyData.canLay0, okS] using h)
  | _ => simp [dOf, PyData.canLay0]
theorem lays_flat : ∀ {xs : List V}, (∀ x ∈ xs, okS x) → PyData.canLayAll0 (xs.map dOf) = true
  | [], _ => by simp [PyData.canLayAll0]
  | x :: xs, h => by simp [PyData.canLayAll0, lay_flat (h x (List.mem_cons_self ..)), lays_flat (xs := xs) fun y hy => h y (List.mem_cons_of_mem _ hy)]
theorem dep_flat (x : V) : (dOf x).depth = 0 := by cases x <;> simp [dOf, PyData.depth]
theorem deps_flat : ∀ xs : List V, PyData.depthAll (xs.map dOf) = 0
  | [] => by simp [PyData.depthAll]
  | x :: xs => by simp [PyData.depthAll, dep_flat x, deps_flat xs]
theorem sh_flat {x : V} (h : okS x) : SeqAt.shaped (dOf x) = true := by simp [SeqAt.shaped, lay_flat h, dep_flat x]
theorem sh_list {xs : List V} (h : ∀ x ∈ xs, okS x) : SeqAt.shaped (.list (xs.map dOf)) = true := by simp [SeqAt.shaped, PyData.canLay0, PyData.depth, lays_flat h, deps_flat xs]
theorem sh_tup {xs : List V} (h : ∀ x ∈ xs, okS x) : SeqAt.shaped (.tuple (xs.map dOf)) = true := by simp [SeqAt.shaped, PyData.canLay0, PyData.depth, lays_flat h, deps_flat xs]
theorem eqv_nil (xs : List V) : PyData.eqv (.list (xs.map dOf)) (.list []) = xs.isEmpty := by
  cases xs <;> simp [PyData.eqv, PyData.eqvAll]
/-- len of a list or a tuple, within a comprehension -/
def rLenK (K : PySem.W.Frag) : List V → Hp → VK → Prop := fun xs H Q => ∃ p ys, xs = [V.ref p] ∧ (SqL K H p ys ∨ SqT K H p ys) ∧ Q (V.int ys.length) H
/-- dict(pairs), within a comprehension -/
def rDictP (K : PySem.W.Frag) : List V → Hp → VK → Prop := fun xs H Q => ∃ (a : Addr) (ps : List Addr) (kvs : List (Key × V)), xs = [.ref a] ∧ SqL K H a (ps.map V.ref) ∧ Paired (fun p kv => SqT K H p [kV kv.1, kv.2]) ps kvs ∧
  ∀ p, H p = none → Q (.ref p) (upd H p (.dK (mergeK [] kvs)))
theorem lay_same {H H' : Hp} {l : Addr} {u : HO} (e : upd H l u = H') (h : H l = none) : Same H H' := e ▸ Same.new h
theorem lay_at {H H' : Hp} {l : Addr} {u : HO} (e : upd H l u = H') : H' l = some u := e ▸ upd_same

/-! ### the source of draws: [digits, a number, a count] -/
def WellO (u : HO) (n : Nat) : Prop := ∃ x y : Int, u = .lst [.int x, .int y, .int (n : Int)] ∧ 0 ≤ y ∧ y < 2147483647
def WellAt (H : Hp) (a : Addr) (n : Nat) : Prop := ∃ u, H a = some u ∧ WellO u n
def sp__law_cell_at (K : PySem.W.Frag) : Sp := fun vs H Q _ => ∃ (a : Addr) (ns : List Int), vs = [.ref a, .int 0] ∧ SqL K H a (ns.map V.int) ∧ ∀ i : Int, Q (.int i) H
theorem ok__law_cell_at {P : Program} {w : World} {K : PySem.W.Frag} {mg : Str → Option Value} {base : Heap} {fd : FuncData} (T : Txt K mg w) (F : FnP K "_law_cell_at" s__law_cell_at [] fd) : FnOk P w K mg base CX0 1 (He.ga K "_law_cell_at") fd ps__law_cell_at (sp__law_cell_at K) := by
  refine F.ok sc__law_cell_at (fun vs H Q E h => ?len) (fun cdv A outer s H vs Q E hr h => ?body)
  case len => obtain ⟨a, ns, rfl, hS, k⟩ := h; rfl
  case body =>
  obtain ⟨a, ns, rfl, hS, k⟩ := h
  have hu := hu_of hr
  refine ⟨_, PSs.nox (pss_cons (ps_if (pt_cmpR op_lt (pv 1) (pe_callB call_len_seq (by rfl) T.n_len (by decide +kernel) (pa_cons (pv 0) pa_nil)) (nomark _)) (pss_one (ps_ret (pe_ix ix_list (pv 0) (pv 1) (fun _ _ => rfl)))) pss_nil)
    (pss_one (ps_ret pe_int))), ?_⟩
  refine ⟨_, rfl, _, rfl, a, _, rfl, .inl hS, _, _, rfl, rfl, _, rfl, ?_⟩
  refine ite2 (fun hlt => ?_) (fun _ => k 0)
  cases ns with
  | nil => simp at hlt
  | cons i r => exact ⟨_, rfl, _, rfl, a, _, 0, .int i, rfl, rfl, hS, atI_nat (j := 0) rfl, k i⟩
def sp__law_source (K : PySem.W.Frag) : Sp := fun vs H Q _ => ∃ (i : Int), vs = [.int i] ∧ ∀ (a : Addr) (u : HO), H a = none → WellO u 0 → Q (.ref a) (upd H a u)
theorem mod_lt' (z : Int) {m : Int} (h : 0 < m) : 0 ≤ z % m ∧ z % m < m := ⟨Int.emod_nonneg _ (by omega), Int.emod_lt_of_pos _ h⟩
theorem ok__law_source {P : Program} {w : World} {K : PySem.W.Frag} {mg : Str → Option Value} {base : Heap} {fd : FuncData} (T : Txt K mg w) (F : FnP K "_law_source" s__law_source [] fd) : FnOk P w K mg base CX0 1 (He.ga K "_law_source") fd ps__law_source (sp__law_source K) := by
  refine F.ok sc__law_source (fun vs H Q E h => ?len) (fun cdv A outer s H vs Q E hr h => ?body)
  case len => obtain ⟨i, rfl, k⟩ := h; rfl
  case body =>
  obtain ⟨i, rfl, k⟩ := h
  have hu := hu_of hr
  refine ⟨_, PSs.nox (pss_one (ps_ret (pe_lst (pa_cons (pe_op op_mul (pv 0) (pe_callTy call_int1 (by rfl) T.n_int (by decide +kernel) (pa_cons (pe_cmpR op_ge (pv 0) (pe_op op_pow pe_int pe_int) (nomark _)) pa_nil))) (pa_cons (pe_op op_mod (pe_callTy call_int1 (by rfl) T.n_int (by decide +kernel) (pa_cons (pv 0) pa_nil)) pe_int) (pa_cons pe_int pa_nil)))))), ?_⟩
  refine ⟨_, rfl, _, rfl, _, _, rfl, rfl, ⟨by decide, by decide, by decide⟩, _, _, rfl, rfl, .inr ⟨_, rfl, _, _, rfl, rfl, .inr ?_, _, rfl, .inl ⟨_, rfl, _, _, rfl, rfl, (by show (0 : Int) < 2147483647; decide), smallN (by show 3 ≤ 1000; decide), fun p hp => k p _ hp ⟨_, _, rfl, mod_lt' i (by decide)⟩⟩⟩⟩
  split <;> constructor <;> decide
/-- a number from 0 to m - 1; the source goes on -/
def sp__law_draw (K : PySem.W.Frag) : Sp := fun vs H Q _ => ∃ (a : Addr) (n : Nat) (m : Int), vs = [.ref a, .int m] ∧ WellAt H a n ∧ n < 1000000 ∧ 0 < m ∧ m ≤ 1000000000 ∧
  ∀ (r : Int) (u : HO) (n' : Nat), 0 ≤ r → r < m → n' ≤ n + 1 → WellO u n' → Q (.int r) (upd H a u)
theorem natAbs_lt64 {z : Int} (h1 : -(2 ^ 40) < z) (h2 : z < 2 ^ 40) : z.natAbs < 2 ^ 64 := by omega
theorem wdiv {i j : Int} (h : 0 < j) (h2 : j ≤ 2 ^ 32) : CDivW i j := wide_div (b := 40) h (by omega) (by decide) (by decide)
theorem ok__law_draw {P : Program} {w : World} {K : PySem.W.Frag} {mg : Str → Option Value} {base : Heap} {fd : FuncData} (T : Txt K mg w) (F : FnP K "_law_draw" s__law_draw [] fd) : FnOk P w K mg base CX0 1 (He.ga K "_law_draw") fd ps__law_draw (sp__law_draw K) := by
  refine F.ok sc__law_draw (fun vs H Q E h => ?len) (fun cdv A outer s H vs Q E hr h => ?body)
  case len => obtain ⟨a, n, m, rfl, ⟨u, hu0, x, y, rfl, y0, y1⟩, hn, hm, hm2, k⟩ := h; rfl
  case body =>
  obtain ⟨a, n, m, rfl, ⟨u, hu0, x, y, rfl, y0, y1⟩, hn, hm, hm2, k⟩ := h
  have hu := hu_of hr
  refine ⟨_, PSs.nox (pss_cons (ps_if (pt_cmpR op_gt (pe_ix ix_list (pv 0) pe_int (fun _ _ => rfl)) pe_int (nomark _)) (pss_cons (ps_set (i := 2) sc__law_draw.nd rfl (Or.inl rfl) (pe_op op_mod (pe_callTy call_int1 (by rfl) T.n_int (by decide +kernel) (pa_cons (pe_ix ix_list (pv 0) pe_int (fun _ _ => rfl)) pa_nil)) (pv 1)))
      (pss_cons (ps_asg (pe_op op_fdivW (pe_ix ix_list (pv 0) pe_int (fun _ _ => rfl)) (pv 1)) (pg_sub (pv 0) pe_int set_list))
      (pss_one (ps_ret (pv 2))))) pss_nil)
    (pss_cons (ps_asg (pe_op op_add (pe_ix ix_list (pv 0) pe_int (fun _ _ => rfl)) pe_int) (pg_sub (pv 0) pe_int set_list))
    (pss_cons (ps_set (i := 3) sc__law_draw.nd rfl (Or.inl rfl) (pe_op op_mod (pe_callTy call_int1 (by rfl) T.n_int (by decide +kernel) (pa_cons (pe_op op_pow (pe_op op_add (pe_op op_add (pe_ix ix_list (pv 0) pe_int (fun _ _ => rfl)) (pe_op op_mul pe_int (pe_ix ix_list (pv 0) pe_int (fun _ _ => rfl)))) pe_int) pe_int) pa_nil)) pe_int))
    (pss_cons (ps_set (i := 3) sc__law_draw.nd rfl (Or.inl rfl) (pe_op op_mod (pe_callTy call_int1 (by rfl) T.n_int (by decide +kernel) (pa_cons (pe_op op_mul (pv 3) (pe_op op_add (pe_op op_add (pe_op op_fdivW (pv 3) pe_int) pe_int) (pe_ix ix_list (pv 0) pe_int (fun _ _ => rfl)))) pa_nil)) pe_int))
    (pss_one (ps_ret (pe_op op_mod (pe_callTy call_int1 (by rfl) T.n_int (by decide +kernel) (pa_cons (pe_op op_fdivW (pe_op op_mod (pe_callTy call_int1 (by rfl) T.n_int (by decide +kernel) (pa_cons (pe_op op_mul (pv 3) (pe_op op_add (pe_op op_fdivW (pv 3) pe_int) pe_int)) pa_nil)) pe_int) pe_int) pa_nil)) (pv 1)))))))), ?_⟩
  have hS : SqL K H a [.int x, .int y, .int (n : Int)] := SqL.of hu0
  refine ⟨_, rfl, a, _, 0, _, rfl, rfl, hS, rfl, _, _, rfl, rfl, _, rfl, ?_⟩
  refine ite2 (fun hx => ?_) (fun hx => ?_)
  · refine ⟨_, rfl, a, _, 0, _, rfl, rfl, hS, rfl, .inl ⟨_, rfl, _, rfl, _, _, rfl, rfl, hm, ?_⟩⟩
    refine ⟨_, rfl, a, _, 0, _, rfl, rfl, hS, rfl, _, rfl, _, _, rfl, rfl, wdiv hm (by omega), _, rfl, a, _, _, 0, rfl, rfl, hu0, rfl, _, rfl, ?_⟩
    exact k _ _ n (mod_lt' x hm).1 (mod_lt' x hm).2 (Nat.le_succ _) ⟨_, _, rfl, y0, y1⟩
  · refine ⟨_, rfl, a, _, 2, _, rfl, rfl, hS, rfl, _, _, rfl, rfl, _, rfl, a, _, _, 2, rfl, rfl, hu0, rfl, ?_⟩
    have hu1 : upd H a (.lst ([.int x, .int y, .int (n : Int)].set 2 (.int ((n : Int) + 1)))) a = some (.lst [.int x, .int y, .int ((n : Int) + 1)]) := upd_same
    have hS1 : SqL K (upd H a (.lst ([.int x, .int y, .int (n : Int)].set 2 (.int ((n : Int) + 1))))) a [.int x, .int y, .int ((n : Int) + 1)] := SqL.of hu1
    refine ⟨_, rfl, a, _, 1, _, rfl, rfl, hS1, rfl, _, rfl, a, _, 2, _, rfl, rfl, hS1, rfl, _, _, rfl, rfl, .inl ⟨by decide, by decide⟩, _, _, rfl, rfl, _, _, rfl, rfl, _, _, rfl, rfl, ⟨by decide, by decide, natAbs_lt64 (by omega) (by omega)⟩, .inl ⟨_, rfl, _, _, rfl, rfl, (by show (0 : Int) < 2147483629; decide), ?_⟩⟩
    have b3 := mod_lt' ((y + 7919 * ((n : Int) + 1) + 1) ^ (5 : Int).toNat) (m := 2147483629) (by decide)
    generalize (y + 7919 * ((n : Int) + 1) + 1) ^ (5 : Int).toNat % 2147483629 = e3 at b3 ⊢
    refine ⟨_, rfl, _, rfl, _, _, rfl, rfl, wdiv (by decide) (by decide), _, _, rfl, rfl, _, rfl, a, _, 2, _, rfl, rfl, hS1, rfl, _, _, rfl, rfl, _, _, rfl, rfl, .inl ⟨by omega, by omega⟩, .inl ⟨_, rfl, _, _, rfl, rfl, (by show (0 : Int) < 2147483587; decide), ?_⟩⟩
    have b4 := mod_lt' (e3 * (e3 / 1009 + 69621 + ((n : Int) + 1))) (m := 2147483587) (by decide)
    generalize e3 * (e3 / 1009 + 69621 + ((n : Int) + 1)) % 2147483587 = e4 at b4 ⊢
    refine ⟨_, rfl, _, rfl, _, _, rfl, rfl, wdiv (by decide) (by decide), _, _, rfl, rfl, _, _, rfl, rfl, .inl ⟨by omega, by omega⟩, .inl ⟨_, rfl, _, _, rfl, rfl, (by show (0 : Int) < 2147483579; decide), _, _, rfl, rfl, wdiv (by decide) (by decide), .inl ⟨_, rfl, _, rfl, _, _, rfl, rfl, hm, ?_⟩⟩⟩
    exact k _ _ (n + 1) (mod_lt' _ hm).1 (mod_lt' _ hm).2 (Nat.le_refl _) ⟨_, _, rfl, y0, y1⟩

/-! ### one of some values -/
theorem well_ne {H : Hp} {a b : Addr} {n : Nat} {o : HO} (h : WellAt H a n) (hb : H b = some o) (ho : ∀ xs, o = .lst xs → xs.length ≠ 3) : b ≠ a := by
  obtain ⟨u, hu, x, y, rfl, _⟩ := h
  exact ne_of hb hu fun z => ho _ z rfl
theorem well_ne3 {H : Hp} {a p : Addr} {n : Nat} (h : WellAt H a n) (hp : H p = none) : p ≠ a := by
  obtain ⟨u, hu, _⟩ := h
  exact fun z => by rw [z, hu] at hp; cases hp
theorem well_upd {H : Hp} {a : Addr} {n : Nat} {u : HO} (h : WellO u n) : WellAt (upd H a u) a n := ⟨u, upd_same, h⟩
theorem well_new {H : Hp} {a p : Addr} {n : Nat} {u : HO} (h : WellAt H a n) (hp : H p = none) : WellAt (upd H p u) a n := by
  obtain ⟨v, hv, w⟩ := h
  exact ⟨v, by rw [upd_ne (ne_of_none hv hp)]; exact hv, w⟩
def sp__law_pick (K : PySem.W.Frag) : Sp := fun vs H Q _ => ∃ (a b : Addr) (n : Nat) (ys : List V), vs = [.ref a, .ref b] ∧ WellAt H a n ∧ n < 1000000 ∧ H b = some (.lst ys) ∧ b ≠ a ∧ 0 < ys.length ∧ ys.length ≤ 1000 ∧
  ∀ (y : V) (u : HO) (n' : Nat), y ∈ ys → n' ≤ n + 1 → WellO u n' → Q y (upd H a u)
theorem ok__law_pick {P : Program} {w : World} {K : PySem.W.Frag} {mg : Str → Option Value} {base : Heap} {fd : FuncData} (T : Txt K mg w) (F : FnP K "_law_pick" s__law_pick [] fd) : FnOk P w K mg base CX0 2 (He.ga K "_law_pick") fd ps__law_pick (sp__law_pick K) := by
  obtain ⟨fd__law_draw, F__law_draw⟩ := T.d__law_draw
  have G__law_draw := ok__law_draw (P := P) (w := w) (base := base) T F__law_draw
  have k__law_draw := F__law_draw.kp
  have b__law_draw := bi__law_draw F__law_draw
  refine F.ok sc__law_pick (fun vs H Q E h => ?len) (fun cdv A outer s H vs Q E hr h => ?body)
  case len => obtain ⟨a, b, n, ys, rfl, hw, hn, hb, hne, h0, h1, k⟩ := h; rfl
  case body =>
  obtain ⟨a, b, n, ys, rfl, hw, hn, hb, hne, h0, h1, k⟩ := h
  have hu := hu_of hr
  refine ⟨_, PSs.nox (pss_one (ps_ret (pe_ix ix_list (pv 1) (pe_call G__law_draw (hr.mono (by first | decide | omega)) rfl T.g__law_draw k__law_draw b__law_draw .nil pass0 (pa_cons (pv 0) (pa_cons (pe_callB call_len_seq (by rfl) T.n_len (by decide +kernel) (pa_cons (pv 1) pa_nil)) pa_nil))) (fun _ _ => rfl)))), ?_⟩
  refine ⟨_, rfl, _, rfl, _, rfl, b, ys, rfl, .inl (SqL.of hb), a, n, _, rfl, hw, hn, (by omega), (by omega), fun r u n' r0 r1 hn' hu' => ?_⟩
  have hb' : upd H a u b = some (.lst ys) := by rw [upd_ne hne]; exact hb
  obtain ⟨j, rfl⟩ := Int.eq_ofNat_of_zero_le r0
  have hj : j < ys.length := by omega
  have e : ys[j]? = some ys[j] := List.getElem?_eq_getElem hj
  exact ⟨b, ys, _, ys[j], rfl, rfl, SqL.of hb', atI_nat e, k _ u n' (List.getElem_mem hj) hn' hu'⟩

theorem kdct_of {K : PySem.W.Frag} {w : World} {a : Addr} {kvs : List (Str × He.Dv)} (h : ∃ es n, KDict K w a es n) (hv : He.valsB K a kvs = true) {q : Str × He.Dv} (hq : q ∈ kvs) : KDct K w a q.1 (q.2.v K) := by
  obtain ⟨es, n, hl, hk, _⟩ := h
  obtain ⟨u, e, r⟩ := He.valsB_ok hv hq
  exact ⟨es, n, u, hl, hk, e, r⟩

/-! ### names and label values -/
def tl (z : Str) : List Nat := z.cps.toList
def smallT : Str := "abcdefghijklmnopqrstuvwxyz"
def digitT : Str := "0123456789"
def inSm (c : Nat) : Bool := decide (c ∈ tl smallT)
def inSD (c : Nat) : Bool := decide (c ∈ tl (smallT ++ digitT))
def inSDH (c : Nat) : Bool := decide (c ∈ tl (smallT ++ digitT ++ "-"))
def firstSm : List Nat → Bool
  | c :: _ => inSm c
  | [] => false
/-- a user name; a label value -/
def userB (z : Str) : Bool := decide (1 ≤ z.length ∧ z.length ≤ 10) && (firstSm (tl z) && (tl z).all inSD)
def lvalB (z : Str) : Bool := decide (z.length ≤ 24) && (tl z).all inSDH
theorem len_tl (z : Str) : z.length = (tl z).length := by
  unfold tl; rw [Array.length_toList]; rfl
theorem kit_str {K : PySem.W.Frag} : PySem.W.kitOne K (.type "str") (.type "str") = some true := kit_ty (show kitB "str" "str" = some true by decide +kernel)
def sp_is_user_name (K : PySem.W.Frag) : Sp := fun vs H Q _ => ∃ (z : Str), vs = [.str z] ∧ z.length ≤ 100000 ∧ ∀ H', Same H H' → Q (.bl (userB z)) H'
theorem small5 {n : Nat} (h : n ≤ 100000) : n ≤ sizeLine := by rw [sizeLine_eq]; omega
theorem small5' {n : Nat} (h : n ≤ 100000) : n < sizeLine := by rw [sizeLine_eq]; omega
/-- a list of bools made sign by sign -/
theorem take_at {z : Str} {i : Nat} {c : Nat} (h : z.cps[i]? = some c) : (tl z)[i]? = some c := by
  unfold tl; rw [Array.getElem?_toList]; exact h
theorem size_tl (z : Str) : z.cps.size = (tl z).length := by unfold tl; rw [Array.length_toList]
theorem ok_is_user_name {P : Program} {w : World} {K : PySem.W.Frag} {mg : Str → Option Value} {base : Heap} {fd : FuncData} (T : Txt K mg w) (F : FnP K "is_user_name" s_is_user_name [] fd) : FnOk P w K mg base CX0 1 (He.ga K "is_user_name") fd ps_is_user_name (sp_is_user_name K) := by
  obtain ⟨t_SMALL, h_SMALL⟩ := T.c_SMALL
  obtain ⟨t_DIGITS, h_DIGITS⟩ := T.c_DIGITS
  obtain ⟨t_MOST_SIGNS, h_MOST_SIGNS⟩ := T.c_MOST_SIGNS
  refine F.ok sc_is_user_name (fun vs H Q E h => ?len) (fun cdv A outer s H vs Q E hr h => ?body)
  case len => obtain ⟨z, rfl, hz, k⟩ := h; rfl
  case body =>
  obtain ⟨z, rfl, hz, k⟩ := h
  have hu := hu_of hr
  refine ⟨_, PSs.nox (pss_cons (ps_if (PW.pt (pw_or (pt_not (pt_val (pe_callB call_isi (by rfl) T.n_isinstance (by decide +kernel) (pa_cons (pv 0) (pa_cons (pe_bltn (v := .ty "str") rfl T.n_str (by decide +kernel) rfl) pa_nil))))) (pw_or (pt_not (pt_chain op_le op_le pe_int (pe_callB call_len_str (by rfl) T.n_len (by decide +kernel) (pa_cons (pv 0) pa_nil)) (pe_glob (v := .int 10) rfl h_MOST_SIGNS ⟨_, rfl⟩))) (pw_or1 (pt_cmpR op_notIn_sign (pe_ix ix_str (pv 0) pe_int (fun _ _ => rfl)) (pe_glob (v := .str "abcdefghijklmnopqrstuvwxyz") rfl h_SMALL ⟨_, rfl⟩) (by rfl)))))) (pss_one (ps_ret pe_bl)) pss_nil)
    (pss_one (ps_ret (pe_callB (cr_all rfl) (by rfl) T.n_all (by decide +kernel) (pa_cons (pe_lc (own := [("sign", 1)]) rfl sc_is_user_name.nd (pi_str (pv 0)) (blkOk_by (own := [("sign", 1)]) (N := N_is_user_name) (sc := defScope s_is_user_name) (by decide +kernel)) (fun _ _ _ _ _ => (pg_name (i := 1) sc_is_user_name.nd rfl (Or.inl rfl))) (fun _ _ _ _ _ => pts_nil) (fun _ _ _ _ _ => (pe_cmpR op_in_sign (pv 1) (pe_op op_add_str (pe_glob (v := .str "abcdefghijklmnopqrstuvwxyz") rfl h_SMALL ⟨_, rfl⟩) (pe_glob (v := .str "0123456789") rfl h_DIGITS ⟨_, rfl⟩)) (by rfl)))) pa_nil))))), ?_⟩
  have bad : userB z = false → Q (.bl false) H := fun e => by have := k H (Same.refl H); rw [e] at this; exact this
  refine ⟨_, rfl, .str z, .ty "str", _, _, _, rfl, .ty "str", .base (.str z), kit_str, _, rfl, ?_⟩
  refine iteF ⟨_, rfl, z, rfl, small5 hz, _, _, rfl, rfl, _, rfl, ?_⟩
  by_cases h1 : (1 : Int) ≤ (z.length : Int)
  · rw [decide_eq_true h1]
    refine iteT ⟨_, _, rfl, rfl, _, rfl, ?_⟩
    by_cases h2 : (z.length : Int) ≤ 10
    · rw [decide_eq_true h2]
      refine iteF ?_
      obtain ⟨c, cs, ec⟩ : ∃ c cs, tl z = c :: cs := by
        cases e : tl z with
        | nil => rw [len_tl, e] at h1; exact absurd h1 (by decide)
        | cons c cs => exact ⟨c, cs, rfl⟩
      have e0 : (tl z)[0]? = some c := by rw [ec]; rfl
      refine ⟨_, rfl, z, 0, c, rfl, rfl, small5 hz, atI_nat (j := 0) e0, ⟨_, _, rfl, rfl, _, rfl, ?_⟩⟩
      by_cases hc : c ∈ tl smallT
      · have hc2 : decide (c ∈ (Str.ofString "abcdefghijklmnopqrstuvwxyz").cps.toList) = true := decide_eq_true hc
        rw [hc2]
        refine iteF ?_
        refine ⟨_, rfl, z, rfl, fun D hD => ?_⟩
        refine lc_it walk_str (fun i H' => Same H H' ∧ H' D = some (.lst (((tl z).take i).map fun c => V.bl (inSD c)))) ⟨Same.new hD, upd_same⟩ (fun _ _ _ _ => True.intro) ?_ ?_
        · rintro i x H1 H2 hi ⟨sm, gD⟩ ⟨rfl, c', hc', rfl⟩
          refine ⟨rfl, yes_ ?_⟩
          refine iteT ?_
          refine ⟨_, rfl, _, _, rfl, rfl, (by decide), _, _, rfl, rfl, ?_⟩
          refine ⟨_, gD, small5' (by rw [List.length_map, List.length_take]; rw [len_tl] at hz; omega), fun b o hb => ?_, ?_⟩
          · rw [upd_ne (ne_of_none hb hD)]; exact sm b o hb
          · rw [upd_same, get_take (take_at hc'), List.map_append]; rfl
        · rintro H' ⟨sm, gD⟩
          rw [size_tl, List.take_length] at gD
          have gD2 : H' D = some (.lst (((tl z).map inSD).map V.bl)) := by rw [gD, List.map_map]; rfl
          refine ⟨D, (tl z).map inSD, rfl, SqL.of gD2, ?_⟩
          have := k H' sm
          have e : userB z = ((tl z).map inSD).all id := by
            unfold userB
            rw [decide_eq_true (show 1 ≤ z.length ∧ z.length ≤ 10 by omega)]
            have : firstSm (tl z) = true := by rw [ec]; exact decide_eq_true hc
            rw [this]
            simp [List.all_map]
          rw [e] at this
          exact this
      · have hc2 : decide (c ∈ (Str.ofString "abcdefghijklmnopqrstuvwxyz").cps.toList) = false := decide_eq_false hc
        rw [hc2]
        refine iteT (bad ?_)
        unfold userB
        have : firstSm (tl z) = false := by rw [ec]; exact decide_eq_false hc
        rw [this]; simp
    · rw [decide_eq_false h2]
      refine iteT (iteT (bad ?_))
      unfold userB
      rw [decide_eq_false (show ¬ (1 ≤ z.length ∧ z.length ≤ 10) by omega)]; rfl
  · rw [decide_eq_false h1]
    refine iteF ⟨_, rfl, iteT (iteT (bad ?_))⟩
    unfold userB
    rw [decide_eq_false (show ¬ (1 ≤ z.length ∧ z.length ≤ 10) by omega)]; rfl
def sp_is_label_value (K : PySem.W.Frag) : Sp := fun vs H Q _ => ∃ (z : Str), vs = [.str z] ∧ z.length ≤ 100000 ∧ ∀ H', Same H H' → Q (.bl (lvalB z)) H'
theorem ok_is_label_value {P : Program} {w : World} {K : PySem.W.Frag} {mg : Str → Option Value} {base : Heap} {fd : FuncData} (T : Txt K mg w) (F : FnP K "is_label_value" s_is_label_value [] fd) : FnOk P w K mg base CX0 1 (He.ga K "is_label_value") fd ps_is_label_value (sp_is_label_value K) := by
  obtain ⟨t_SMALL, h_SMALL⟩ := T.c_SMALL
  obtain ⟨t_DIGITS, h_DIGITS⟩ := T.c_DIGITS
  obtain ⟨t_MOST_LETTERS, h_MOST_LETTERS⟩ := T.c_MOST_LETTERS
  refine F.ok sc_is_label_value (fun vs H Q E h => ?len) (fun cdv A outer s H vs Q E hr h => ?body)
  case len => obtain ⟨z, rfl, hz, k⟩ := h; rfl
  case body =>
  obtain ⟨z, rfl, hz, k⟩ := h
  have hu := hu_of hr
  refine ⟨_, PSs.nox (pss_cons (ps_if (PW.pt (pw_or (pt_not (pt_val (pe_callB call_isi (by rfl) T.n_isinstance (by decide +kernel) (pa_cons (pv 0) (pa_cons (pe_bltn (v := .ty "str") rfl T.n_str (by decide +kernel) rfl) pa_nil))))) (pw_or1 (pt_cmpR op_gt (pe_callB call_len_str (by rfl) T.n_len (by decide +kernel) (pa_cons (pv 0) pa_nil)) (pe_glob (v := .int 24) rfl h_MOST_LETTERS ⟨_, rfl⟩) (nomark _))))) (pss_one (ps_ret pe_bl)) pss_nil)
    (pss_one (ps_ret (pe_callB (cr_all rfl) (by rfl) T.n_all (by decide +kernel) (pa_cons (pe_lc (own := [("sign", 1)]) rfl sc_is_label_value.nd (pi_str (pv 0)) (blkOk_by (own := [("sign", 1)]) (N := N_is_label_value) (sc := defScope s_is_label_value) (by decide +kernel)) (fun _ _ _ _ _ => (pg_name (i := 1) sc_is_label_value.nd rfl (Or.inl rfl))) (fun _ _ _ _ _ => pts_nil) (fun _ _ _ _ _ => (pe_cmpR op_in_sign (pv 1) (pe_op op_add_str (pe_op op_add_str (pe_glob (v := .str "abcdefghijklmnopqrstuvwxyz") rfl h_SMALL ⟨_, rfl⟩) (pe_glob (v := .str "0123456789") rfl h_DIGITS ⟨_, rfl⟩)) pe_str) (by rfl)))) pa_nil))))), ?_⟩
  refine ⟨_, rfl, .str z, .ty "str", _, _, _, rfl, .ty "str", .base (.str z), kit_str, _, rfl, ?_⟩
  refine iteF ⟨_, rfl, z, rfl, small5 hz, _, _, rfl, rfl, _, rfl, ?_⟩
  by_cases h2 : (24 : Int) < (z.length : Int)
  · rw [decide_eq_true h2]
    refine iteT ?_
    have := k H (Same.refl H)
    have e : lvalB z = false := by
      unfold lvalB
      rw [decide_eq_false (show ¬ z.length ≤ 24 by omega)]; rfl
    rw [e] at this
    exact this
  · rw [decide_eq_false h2]
    refine iteF ?_
    refine ⟨_, rfl, z, rfl, fun D hD => ?_⟩
    refine lc_it walk_str (fun i H' => Same H H' ∧ H' D = some (.lst (((tl z).take i).map fun c => V.bl (inSDH c)))) ⟨Same.new hD, upd_same⟩ (fun _ _ _ _ => True.intro) ?_ ?_
    · rintro i x H1 H2 hi ⟨sm, gD⟩ ⟨rfl, c', hc', rfl⟩
      refine ⟨rfl, yes_ ?_⟩
      refine iteT ?_
      refine ⟨_, rfl, _, _, rfl, rfl, (by decide), _, _, rfl, rfl, (by decide), _, _, rfl, rfl, ?_⟩
      refine ⟨_, gD, small5' (by rw [List.length_map, List.length_take]; rw [len_tl] at hz; omega), fun b o hb => ?_, ?_⟩
      · rw [upd_ne (ne_of_none hb hD)]; exact sm b o hb
      · rw [upd_same, get_take (take_at hc'), List.map_append]; rfl
    · rintro H' ⟨sm, gD⟩
      rw [size_tl, List.take_length] at gD
      have gD2 : H' D = some (.lst (((tl z).map inSDH).map V.bl)) := by rw [gD, List.map_map]; rfl
      refine ⟨D, (tl z).map inSDH, rfl, SqL.of gD2, ?_⟩
      have := k H' sm
      have e : lvalB z = ((tl z).map inSDH).all id := by
        unfold lvalB
        rw [decide_eq_true (show z.length ≤ 24 by omega)]
        simp [List.all_map]
      rw [e] at this
      exact this
/-! ### labels -/
abbrev Lab := List (Key × V)
/-- the table of labels kvs, user names to label values -/
def LabOk (kvs : List (Str × Str)) : Prop := kvs.length ≤ 8 ∧ (∀ p ∈ kvs, userB p.1 = true ∧ lvalB p.2 = true ∧ p.1.length ≤ 100 ∧ p.2.length ≤ 100) ∧ (kvs.map (·.1)).Nodup
def labD (kvs : List (Str × Str)) : List (Key × V) := kvs.map fun p => (Sum.inr p.1, V.str p.2)
def sp_is_labels (K : PySem.W.Frag) : Sp := fun vs H Q _ => ∃ (d : Addr) (kvs : List (Str × Str)), vs = [.ref d] ∧ H d = some (.dK (labD kvs)) ∧ LabOk kvs ∧ ∀ H', Same H H' → Q (.bl true) H'
theorem kit_dict {K : PySem.W.Frag} : PySem.W.kitOne K (.type "dict") (.type "dict") = some true := kit_ty (show kitB "dict" "dict" = some true by decide +kernel)
theorem all_true : ∀ n : Nat, (List.replicate n true).all id = true
  | 0 => rfl
  | n + 1 => by rw [List.replicate_succ, List.all_cons, all_true n]; rfl
theorem ok_is_labels {P : Program} {w : World} {K : PySem.W.Frag} {mg : Str → Option Value} {base : Heap} {fd : FuncData} (T : Txt K mg w) (F : FnP K "is_labels" s_is_labels [] fd) : FnOk P w K mg base CX0 2 (He.ga K "is_labels") fd ps_is_labels (sp_is_labels K) := by
  obtain ⟨fd_is_user_name, F_is_user_name⟩ := T.d_is_user_name
  have G_is_user_name := ok_is_user_name (P := P) (w := w) (base := base) T F_is_user_name
  have k_is_user_name := F_is_user_name.kp
  have b_is_user_name := bi_is_user_name F_is_user_name
  obtain ⟨fd_is_label_value, F_is_label_value⟩ := T.d_is_label_value
  have G_is_label_value := ok_is_label_value (P := P) (w := w) (base := base) T F_is_label_value
  have k_is_label_value := F_is_label_value.kp
  have b_is_label_value := bi_is_label_value F_is_label_value
  obtain ⟨t_MOST_LABELS, h_MOST_LABELS⟩ := T.c_MOST_LABELS
  refine F.ok sc_is_labels (fun vs H Q E h => ?len) (fun cdv A outer s H vs Q E hr h => ?body)
  case len => obtain ⟨d, kvs, rfl, hd, ok, k⟩ := h; rfl
  case body =>
  obtain ⟨d, kvs, rfl, hd, ok, k⟩ := h
  have hu := hu_of hr
  refine ⟨_, PSs.nox (pss_cons (ps_if (PW.pt (pw_or (pt_not (pt_val (pe_callB call_isi (by rfl) T.n_isinstance (by decide +kernel) (pa_cons (pv 0) (pa_cons (pe_bltn (v := .ty "dict") rfl T.n_dict (by decide +kernel) rfl) pa_nil))))) (pw_or1 (pt_cmpR op_gt (pe_callB call_lenD (by rfl) T.n_len (by decide +kernel) (pa_cons (pv 0) pa_nil)) (pe_glob (v := .int 8) rfl h_MOST_LABELS ⟨_, rfl⟩) (nomark _))))) (pss_one (ps_ret pe_bl)) pss_nil)
    (pss_one (ps_ret (pe_callB (cr_all rfl) (by rfl) T.n_all (by decide +kernel) (pa_cons (pe_lock (pe_lc (own := [("name", 1), ("text", 2)]) (g := gTup K 2 (gCons (gName 1) (gCons (gName 2) gNil))) rfl sc_is_labels.nd (pi_items (pv 0)) (blkOk_by (own := [("name", 1), ("text", 2)]) (N := N_is_labels) (sc := defScope s_is_labels) (by decide +kernel)) (fun _ _ _ _ _ => (pg_tup rfl (pgs_cons (pg_name (i := 1) sc_is_labels.nd rfl (Or.inl rfl) (Or.inr rfl)) (pgs_cons (pg_name (i := 2) sc_is_labels.nd rfl (Or.inl rfl) (Or.inr rfl)) pgs_nil)))) (fun _ _ _ _ _ => pts_nil) (fun _ _ _ _ _ => (pe_and (pe_call G_is_user_name (hr.mono (by first | decide | omega)) rfl T.g_is_user_name k_is_user_name b_is_user_name .nil pass0 (pa_cons (pv 1) pa_nil)) (pe_one (pe_call G_is_label_value (hr.mono (by first | decide | omega)) rfl T.g_is_label_value k_is_label_value b_is_label_value .nil pass0 (pa_cons (pv 2) pa_nil))))))) pa_nil))))), ?_⟩
  have hlen : (labD kvs).length = kvs.length := List.length_map _
  refine ⟨_, rfl, _, .ty "dict", _, _, _, rfl, .ty "dict", .base (.dK hd), kit_dict, _, rfl, ?_⟩
  refine iteF ⟨_, rfl, d, _, rfl, hd, _, _, rfl, rfl, _, rfl, ?_⟩
  rw [decide_eq_false (show ¬ (8 : Int) < ((labD kvs).length : Int) by have := ok.1; omega)]
  refine iteF ?_
  refine ⟨d, _, hd, True.intro, fun od => ?_⟩
  have hdF : (upd H d (.frz od (.dK (labD kvs)))) d = _ := upd_same
  refine ⟨_, rfl, d, od, labD kvs, rfl, hdF, fun D hD => ?_⟩
  have nD : D ≠ d := fun z => by rw [z, hdF] at hD; cases hD
  refine lc_it walk_items (fun i H' => Same (upd H d (.frz od (.dK (labD kvs)))) H' ∧ H' D = some (.lst (List.replicate i (V.bl true)))) ⟨Same.new hD, upd_same⟩ (fun i H' _ p => p.1 _ _ hdF) ?_ ?_
  · rintro i x H1 H2 hi ⟨sm, gD⟩ ⟨T, x1, y1, rfl, hT, rfl, h1, h2⟩
    obtain ⟨p, hp⟩ : ∃ p, kvs[i]? = some p := ⟨_, List.getElem?_eq_getElem (by omega)⟩
    have hp2 : (labD kvs)[i]? = some (Sum.inr p.1, V.str p.2) := by unfold labD; rw [List.getElem?_map, hp]; rfl
    dsimp only at h1 h2
    rw [hp2] at h1 h2
    cases h1
    cases h2
    obtain ⟨u1, u2, u3, u4⟩ := ok.2.1 p (mem_at hp)
    have gD1 : upd H1 T (.tup [kV (Sum.inr p.1), V.str p.2]) D = _ := Same.new hT _ _ gD
    refine ⟨T, _, rfl, SqT.of upd_same, rfl, _, _, rfl, _, _, rfl, rfl, rfl, yes_ ?_⟩
    refine iteT ?_
    refine ⟨_, rfl, p.1, rfl, by omega, fun H3 S3 => ⟨_, rfl, ?_⟩⟩
    rw [u1]
    refine iteT ⟨_, rfl, p.2, rfl, by omega, fun H4 S4 => ?_⟩
    rw [u2]
    have S14 := (Same.new hT).trans (S3.trans S4)
    refine ⟨_, S14 _ _ gD, small1000 (by rw [List.length_replicate]; have := ok.1; omega), fun b o hb => ?_, ?_⟩
    · rw [upd_ne (ne_of_none hb hD)]; exact S14 _ _ (sm b o hb)
    · rw [upd_same, List.replicate_succ']
  · rintro H' ⟨sm, gD⟩
    refine ⟨sm _ _ hdF, ?_⟩
    have gD2 : upd H' d (.dK (labD kvs)) D = some (.lst ((List.replicate (labD kvs).length true).map V.bl)) := by rw [upd_ne nD, gD, List.map_replicate]
    refine ⟨D, List.replicate (labD kvs).length true, rfl, SqL.of gD2, ?_⟩
    rw [all_true]
    refine k _ fun b o hb => ?_
    by_cases e : b = d
    · subst e; rw [hd] at hb; cases hb; exact upd_same
    · rw [upd_ne e]; exact sm _ _ (by rw [upd_ne e]; exact hb)

/-! ### rows and their texts -/
inductive Verb | is | not | there | missing
  deriving DecidableEq
def vT : Verb → Str
  | .is => "is"
  | .not => "not"
  | .there => "there"
  | .missing => "missing"
structure Row where
  nm : Str
  vb : Verb
  vl : Str
def rowV (r : Row) : List V := [.str r.nm, .str (vT r.vb), .str r.vl]
def preT : Verb → Str
  | .missing => "!"
  | _ => ""
def markT : Verb → Str
  | .is => "="
  | .not => "!="
  | _ => ""
def rowT (r : Row) : Str := preT r.vb ++ r.nm ++ markT r.vb ++ r.vl

def names4 : List Str := ["app", "tier", "zone"]
def vals8 : List Str := ["", "web", "db", "web", "a-1", "0", "-", "xxxxxxxxxxxxxxxxxxxxxxxx", "a", "b", "c"]

def allRows : List Row := names4.flatMap fun n => (vals8.flatMap fun v => [⟨n, .is, v⟩, ⟨n, .not, v⟩]) ++ [⟨n, .there, ""⟩, ⟨n, .missing, ""⟩]
def hasT (x z : Str) : Bool := !(Builtin.Str.occurrences z x 0 z.length 1).isEmpty
def rowFact (r : Row) : Bool :=
  decide ((rowT r).length ≤ 50) && (decide (r.nm.length ≤ 50) && (decide (r.vl.length ≤ 50) && (userB r.nm && (lvalB r.vl && (!decide ((44 : Nat) ∈ tl (rowT r)) && (decide (rowT r ≠ "") &&
  (match r.vb with
  | .missing => decide (cutS (rowT r) none (some 1) = "!") && decide (cutS (rowT r) (some 1) none = r.nm) && decide (r.vl = "")
  | .not => decide (cutS (rowT r) none (some 1) ≠ "!") && (hasT "!=" (rowT r) && decide (Txt.splitMax (rowT r) "!=" 1 = [r.nm, r.vl]))
  | .is => decide (cutS (rowT r) none (some 1) ≠ "!") && (!hasT "!=" (rowT r) && (hasT "=" (rowT r) && decide (Txt.splitMax (rowT r) "=" 1 = [r.nm, r.vl])))
  | .there => decide (cutS (rowT r) none (some 1) ≠ "!") && (!hasT "!=" (rowT r) && (!hasT "=" (rowT r) && (decide (rowT r = r.nm) && decide (r.vl = "")))))))))))
set_option maxRecDepth 100000 in
theorem rows_fact : allRows.all rowFact = true := by decide +kernel
structure RowF (r : Row) : Prop where
  lt : (rowT r).length ≤ 50
  ln : r.nm.length ≤ 50
  lv : r.vl.length ≤ 50
  un : userB r.nm = true
  lb : lvalB r.vl = true
  com : (44 : Nat) ∉ tl (rowT r)
  ne : rowT r ≠ ""
  mis : r.vb = .missing → cutS (rowT r) none (some 1) = "!" ∧ cutS (rowT r) (some 1) none = r.nm ∧ r.vl = ""
  neg : r.vb = .not → cutS (rowT r) none (some 1) ≠ "!" ∧ hasT "!=" (rowT r) = true ∧ Txt.splitMax (rowT r) "!=" 1 = [r.nm, r.vl]
  pos : r.vb = .is → cutS (rowT r) none (some 1) ≠ "!" ∧ hasT "!=" (rowT r) = false ∧ hasT "=" (rowT r) = true ∧ Txt.splitMax (rowT r) "=" 1 = [r.nm, r.vl]
  the : r.vb = .there → cutS (rowT r) none (some 1) ≠ "!" ∧ hasT "!=" (rowT r) = false ∧ hasT "=" (rowT r) = false ∧ rowT r = r.nm ∧ r.vl = ""
theorem row_f {r : Row} (h : r ∈ allRows) : RowF r := by
  have q := List.all_eq_true.mp rows_fact r h
  unfold rowFact at q
  simp only [Bool.and_eq_true, decide_eq_true_eq, Bool.not_eq_true', decide_eq_false_iff_not] at q
  obtain ⟨q1, q2, q3, q4, q5, q6, q7, q8⟩ := q
  refine ⟨q1, q2, q3, q4, q5, q6, q7, fun e => ?_, fun e => ?_, fun e => ?_, fun e => ?_⟩
  all_goals
    rw [e] at q8
    simp only [Bool.and_eq_true, decide_eq_true_eq, Bool.not_eq_true'] at q8
  · exact ⟨q8.1.1, q8.1.2, q8.2⟩
  · exact q8
  · exact q8
  · exact q8
def RowAt (H : Hp) (p : Addr) (r : Row) : Prop := H p = some (.tup (rowV r))
def RowsAt (H : Hp) (L : Addr) (rows : List Row) : Prop := ∃ ps : List Addr, H L = some (.lst (ps.map V.ref)) ∧ Paired (RowAt H) ps rows
def Rows8 (rows : List Row) : Prop := rows.length ≤ 8 ∧ ∀ r ∈ rows, r ∈ allRows
theorem Paired.mono {α β : Type} {F G : α → β → Prop} (f : ∀ a b, F a b → G a b) : ∀ {xs : List α} {ys : List β}, Paired F xs ys → Paired G xs ys
  | _, _, .nil => .nil
  | _, _, .cons r t => .cons (f _ _ r) (Paired.mono f t)
theorem rows_same {H H' : Hp} {L : Addr} {rows : List Row} (s : Same H H') (h : RowsAt H L rows) : RowsAt H' L rows := by
  obtain ⟨ps, h1, h2⟩ := h
  exact ⟨ps, s _ _ h1, Paired.mono (fun p r q => s _ _ q) h2⟩
def sp_requirement (K : PySem.W.Frag) : Sp := fun vs H Q _ => ∃ (r : Row), vs = [.str (rowT r)] ∧ r ∈ allRows ∧ ∀ (p : Addr) (H' : Hp), Same H H' → RowAt H' p r → Q (.ref p) H'
theorem ok_requirement {P : Program} {w : World} {K : PySem.W.Frag} {mg : Str → Option Value} {base : Heap} {fd : FuncData} (T : Txt K mg w) (F : FnP K "requirement" s_requirement [] fd) : FnOk P w K mg base CX0 2 (He.ga K "requirement") fd ps_requirement (sp_requirement K) := by
  obtain ⟨fd_is_user_name, F_is_user_name⟩ := T.d_is_user_name
  have G_is_user_name := ok_is_user_name (P := P) (w := w) (base := base) T F_is_user_name
  have k_is_user_name := F_is_user_name.kp
  have b_is_user_name := bi_is_user_name F_is_user_name
  obtain ⟨fd_is_label_value, F_is_label_value⟩ := T.d_is_label_value
  have G_is_label_value := ok_is_label_value (P := P) (w := w) (base := base) T F_is_label_value
  have k_is_label_value := F_is_label_value.kp
  have b_is_label_value := bi_is_label_value F_is_label_value
  refine F.ok sc_requirement (fun vs H Q E h => ?len) (fun cdv A outer s H vs Q E hr h => ?body)
  case len => obtain ⟨r, rfl, hr0, k⟩ := h; rfl
  case body =>
  obtain ⟨r, rfl, hr0, k⟩ := h
  have hu := hu_of hr
  refine ⟨_, PSs.nox (pss_cons (ps_if (pt_cmpR op_eq (pe_slice sl_str (pv 0) po_none (po_some pe_int)) pe_str (nomark _)) (pss_one (ps_set (i := 1) sc_requirement.nd rfl (Or.inl rfl) (pe_tup (pa_cons (pe_slice sl_str (pv 0) (po_some pe_int) po_none) (pa_cons pe_str (pa_cons pe_str pa_nil)))))) (pss_one (ps_if (pt_cmpR op_in_str pe_str (pv 0) (by rfl)) (pss_cons (ps_asg (pe_bm PySem.F.plainAttrs_str PySem.F.slot_str_split PySem.F.type_str_split mt_splitMax (pv 0) (pa_cons pe_str (pa_cons pe_int pa_nil))) (pg_lst rfl (pgs_cons (pg_name (i := 2) sc_requirement.nd rfl (Or.inl rfl)) (pgs_cons (pg_name (i := 3) sc_requirement.nd rfl (Or.inl rfl)) pgs_nil))))
        (pss_one (ps_set (i := 1) sc_requirement.nd rfl (Or.inl rfl) (pe_tup (pa_cons (pv 2) (pa_cons pe_str (pa_cons (pv 3) pa_nil))))))) (pss_one (ps_if (pt_cmpR op_in_str pe_str (pv 0) (by rfl)) (pss_cons (ps_asg (pe_bm PySem.F.plainAttrs_str PySem.F.slot_str_split PySem.F.type_str_split mt_splitMax (pv 0) (pa_cons pe_str (pa_cons pe_int pa_nil))) (pg_lst rfl (pgs_cons (pg_name (i := 2) sc_requirement.nd rfl (Or.inl rfl)) (pgs_cons (pg_name (i := 3) sc_requirement.nd rfl (Or.inl rfl)) pgs_nil))))
          (pss_one (ps_set (i := 1) sc_requirement.nd rfl (Or.inl rfl) (pe_tup (pa_cons (pv 2) (pa_cons pe_str (pa_cons (pv 3) pa_nil))))))) (pss_one (ps_set (i := 1) sc_requirement.nd rfl (Or.inl rfl) (pe_tup (pa_cons (pv 0) (pa_cons pe_str (pa_cons pe_str pa_nil)))))))))))
    (pss_one (ps_ret (pe_ifExp (PW.pt (pw_and (pt_val (pe_call G_is_user_name (hr.mono (by first | decide | omega)) rfl T.g_is_user_name k_is_user_name b_is_user_name .nil pass0 (pa_cons (pe_ix ix_tup (pv 1) pe_int (fun _ _ => rfl)) pa_nil))) (pw_and1 (pt_val (pe_call G_is_label_value (hr.mono (by first | decide | omega)) rfl T.g_is_label_value k_is_label_value b_is_label_value .nil pass0 (pa_cons (pe_ix ix_tup (pv 1) pe_int (fun _ _ => rfl)) pa_nil)))))) (pv 1) pe_non)))), ?_⟩
  have f := row_f hr0
  -- the last row: found if both are right
  have fin : ∀ (p : Addr) (H1 : Hp) (n v : Option V), Same H H1 → RowAt H1 p r → tRet (tIf (tAnd (tB (tCall (sp_is_user_name K) [] E0 (tCons (tOp (rIxT K) (tVar 1) (tC (.int 0))) tNil))) (tB (tCall (sp_is_label_value K) [] E0 (tCons (tOp (rIxT K) (tVar 1) (tC (.int 2))) tNil)))) (tVar 1) (tC .non))
      { nx := fun _ H' => Q .non H', rt := Q } [some (.str (rowT r)), some (.ref p), n, v] H1 := by
    intro p H1 n v S1 h1
    refine ⟨_, rfl, p, _, 0, .str r.nm, rfl, rfl, SqT.of h1, rfl, r.nm, rfl, by have := f.ln; omega, fun H2 S2 => ⟨_, rfl, ?_⟩⟩
    rw [f.un]
    refine iteT ⟨_, rfl, p, _, 2, .str r.vl, rfl, rfl, SqT.of (S2 _ _ h1), rfl, r.vl, rfl, by have := f.lv; omega, fun H3 S3 => ⟨_, rfl, ?_⟩⟩
    rw [f.lb]
    exact iteT ⟨_, rfl, k p H3 (S1.trans (S2.trans S3)) (S3 _ _ (S2 _ _ h1))⟩
  have hz : (rowT r).length ≤ sizeLine := smallN (by have := f.lt; omega)
  refine ⟨_, rfl, _, rfl, _, rfl, hz, rfl, _, rfl, ?_⟩
  have mk : ∀ (a b c : Str), [V.str a, .str b, .str c] = rowV r → ∀ (H1 : Hp) (p : Addr), RowAt (upd H1 p (.tup [V.str a, .str b, .str c])) p r := fun a b c e H1 p => by
    unfold RowAt
    rw [upd_same, e]
  have spl : ∀ (sep : Str), (sep.length == 0) = false → Txt.splitMax (rowT r) sep 1 = [r.nm, r.vl] → ∀ (vbt : Str), vbt = vT r.vb → ∀ H1, Same H H1 →
      tSeq (tAsg (tBM K "str" (fun x xs H Q => ∃ (a b : Str) (k : Int), x = .str a ∧ xs = [.str b, .int k] ∧ (b.length == 0) = false ∧ -(2 ^ 63) ≤ k ∧ k < 2 ^ 63 ∧ a.length + 2 ≤ sizeLine ∧ rNewStrs (Txt.splitMax a b k) H Q) (tVar 0) (tCons (tC (.str sep)) (tCons (tC (.int 1)) tNil))) (gLst K 2 (gCons (gName 2) (gCons (gName 3) gNil))))
        (tAsg (tTup (tCons (tVar 2) (tCons (tC (.str vbt)) (tCons (tVar 3) tNil)))) (gName 1))
      { nx := tRet (tIf (tAnd (tB (tCall (sp_is_user_name K) [] E0 (tCons (tOp (rIxT K) (tVar 1) (tC (.int 0))) tNil))) (tB (tCall (sp_is_label_value K) [] E0 (tCons (tOp (rIxT K) (tVar 1) (tC (.int 2))) tNil)))) (tVar 1) (tC .non)) { nx := fun _ H' => Q .non H', rt := Q }, rt := Q } [some (.str (rowT r)), none, none, none] H1 := by
    intro sep h0 hs vbt hv H1 S1
    refine ⟨_, rfl, rfl, _, _, _, rfl, rfl, h0, by decide, by decide, (by rw [sizeLine_eq]; have := f.lt; omega), fun p hp => ?_⟩
    rw [hs]
    refine ⟨p, _, rfl, SqL.of upd_same, rfl, _, _, rfl, _, _, rfl, rfl, ?_⟩
    refine ⟨_, rfl, _, rfl, smallN (by show 3 ≤ 1000; decide), fun q hq => ?_⟩
    exact fin q _ _ _ (S1.trans ((Same.new hp).trans (Same.new hq))) (mk _ _ _ (by rw [hv]; rfl) _ q)
  cases evb : r.vb with
  | missing =>
    obtain ⟨m1, m2, m3⟩ := f.mis evb
    rw [m1, decide_eq_true (show V.str "!" = V.str "!" from rfl)]
    refine iteT ?_
    refine ⟨_, rfl, _, rfl, _, rfl, hz, smallN (by show 3 ≤ 1000; decide), fun p hp => ?_⟩
    exact fin p _ _ _ (Same.new hp) (mk _ _ _ (by unfold rowV; rw [m2, evb, m3]; rfl) _ p)
  | not =>
    obtain ⟨m1, m2, m3⟩ := f.neg evb
    rw [decide_eq_false (show ¬ V.str (cutS (rowT r) none (some 1)) = V.str "!" from fun z => m1 (by injection z))]
    refine iteF ⟨_, rfl, _, _, rfl, rfl, _, rfl, ?_⟩
    have m2 : (!(Builtin.Str.occurrences (rowT r) "!=" 0 (rowT r).length 1).isEmpty) = true := m2
    rw [m2]
    exact iteT (spl "!=" rfl m3 "not" (by rw [evb]; rfl) H (Same.refl H))
  | is =>
    obtain ⟨m1, m2, m3, m4⟩ := f.pos evb
    rw [decide_eq_false (show ¬ V.str (cutS (rowT r) none (some 1)) = V.str "!" from fun z => m1 (by injection z))]
    refine iteF ⟨_, rfl, _, _, rfl, rfl, _, rfl, ?_⟩
    have m2 : (!(Builtin.Str.occurrences (rowT r) "!=" 0 (rowT r).length 1).isEmpty) = false := m2
    rw [m2]
    refine iteF ⟨_, rfl, _, _, rfl, rfl, _, rfl, ?_⟩
    have m3 : (!(Builtin.Str.occurrences (rowT r) "=" 0 (rowT r).length 1).isEmpty) = true := m3
    rw [m3]
    exact iteT (spl "=" rfl m4 "is" (by rw [evb]; rfl) H (Same.refl H))
  | there =>
    obtain ⟨m1, m2, m3, m4, m5⟩ := f.the evb
    rw [decide_eq_false (show ¬ V.str (cutS (rowT r) none (some 1)) = V.str "!" from fun z => m1 (by injection z))]
    refine iteF ⟨_, rfl, _, _, rfl, rfl, _, rfl, ?_⟩
    have m2 : (!(Builtin.Str.occurrences (rowT r) "!=" 0 (rowT r).length 1).isEmpty) = false := m2
    rw [m2]
    refine iteF ⟨_, rfl, _, _, rfl, rfl, _, rfl, ?_⟩
    have m3 : (!(Builtin.Str.occurrences (rowT r) "=" 0 (rowT r).length 1).isEmpty) = false := m3
    rw [m3]
    refine iteF ?_
    refine ⟨_, rfl, smallN (by show 3 ≤ 1000; decide), fun p hp => ?_⟩
    exact fin p _ _ _ (Same.new hp) (mk _ _ _ (by unfold rowV; rw [evb, m5, m4]; rfl) _ p)

/-! ### selectors -/
def selT (rows : List Row) : Str := Txt.join "," (rows.map rowT)
theorem joinL_len (S : List Nat) (m : Nat) : ∀ ps : List (List Nat), (∀ p ∈ ps, p.length ≤ m) → (TL.joinL S ps).length ≤ ps.length * (m + S.length)
  | [], _ => by simp [TL.joinL]
  | [p], h => by
    have := h p (List.mem_singleton.mpr rfl)
    simp only [TL.joinL, List.length_singleton]; omega
  | p :: q :: r, h => by
    have h1 := h p (List.mem_cons_self ..)
    have h2 := joinL_len S m (q :: r) fun z hz => h z (List.mem_cons_of_mem _ hz)
    simp only [TL.joinL, List.length_append]
    rw [List.length_cons, Nat.add_mul]
    omega
theorem selT_len {rows : List Row} (h : Rows8 rows) : (selT rows).length ≤ 1000 := by
  have e : (selT rows).length = (TL.tl (selT rows)).length := len_tl _
  rw [e]
  unfold selT
  rw [TL.join_eq, TL.tl_join]
  refine Nat.le_trans (joinL_len _ 50 _ ?_) ?_
  · intro p hp
    rw [List.map_map] at hp
    obtain ⟨r, hr, rfl⟩ := List.mem_map.mp hp
    have := (row_f (h.2 r hr)).lt
    rw [len_tl] at this
    exact this
  · have : (TL.tl (",":Str)).length = 1 := by decide +kernel
    rw [this, List.length_map, List.length_map]
    have := h.1
    omega
theorem selT_split {rows : List Row} (h : Rows8 rows) (hne : rows ≠ []) : Txt.split (selT rows) "," = rows.map rowT := by
  refine TL.split_join (s := 44) (S := []) (by decide +kernel) (by decide +kernel) (by simpa using hne) fun p hp => ?_
  obtain ⟨r, hr, rfl⟩ := List.mem_map.mp hp
  exact (row_f (h.2 r hr)).com
theorem selT_ne {rows : List Row} (h : Rows8 rows) (hne : rows ≠ []) : selT rows ≠ "" := by
  intro e
  have q := selT_split h hne
  rw [e] at q
  have q0 : Txt.split ("" : Str) "," = ([("" : Str)] : List Str) := by decide +kernel
  rw [q0] at q
  cases rows with
  | nil => exact hne rfl
  | cons r rs =>
    rw [List.map_cons] at q
    injection q with q1 _
    exact (row_f (h.2 r (List.mem_cons_self ..))).ne q1.symm
theorem selT_nil : selT [] = "" := by decide +kernel
theorem paired_snoc {α β : Type} {F : α → β → Prop} {a : α} {b : β} (h : F a b) : ∀ {xs : List α} {ys : List β}, Paired F xs ys → Paired F (xs ++ [a]) (ys ++ [b])
  | _, _, .nil => .cons h .nil
  | _, _, .cons r t => .cons r (paired_snoc h t)
theorem paired_len {α β : Type} {F : α → β → Prop} : ∀ {xs : List α} {ys : List β}, Paired F xs ys → xs.length = ys.length
  | _, _, .nil => rfl
  | _, _, .cons _ t => by rw [List.length_cons, List.length_cons, paired_len t]
theorem paired_at {α β : Type} {F : α → β → Prop} : ∀ {xs : List α} {ys : List β} {i : Nat} {a : α}, Paired F xs ys → xs[i]? = some a → ∃ b, ys[i]? = some b ∧ F a b
  | _, _, _, _, .nil, e => by simp at e
  | _, _, 0, _, .cons r _, e => by simp at e; subst e; exact ⟨_, rfl, r⟩
  | _, _, i + 1, a, .cons _ t, e => by
    obtain ⟨b, h1, h2⟩ := paired_at (i := i) (a := a) t (by simpa using e)
    exact ⟨b, by simpa using h1, h2⟩
def sp_rows_of (K : PySem.W.Frag) : Sp := fun vs H Q _ => ∃ (rows : List Row), vs = [.str (selT rows)] ∧ Rows8 rows ∧ ∀ (L : Addr) (H' : Hp), Same H H' → H L = none → RowsAt H' L rows → Q (.ref L) H'
theorem ok_rows_of {P : Program} {w : World} {K : PySem.W.Frag} {mg : Str → Option Value} {base : Heap} {fd : FuncData} (T : Txt K mg w) (F : FnP K "rows_of" s_rows_of [] fd) : FnOk P w K mg base CX0 3 (He.ga K "rows_of") fd ps_rows_of (sp_rows_of K) := by
  obtain ⟨fd_requirement, F_requirement⟩ := T.d_requirement
  have G_requirement := ok_requirement (P := P) (w := w) (base := base) T F_requirement
  have k_requirement := F_requirement.kp
  have b_requirement := bi_requirement F_requirement
  obtain ⟨t_MOST_REQUIREMENTS, h_MOST_REQUIREMENTS⟩ := T.c_MOST_REQUIREMENTS
  refine F.ok sc_rows_of (fun vs H Q E h => ?len) (fun cdv A outer s H vs Q E hr h => ?body)
  case len => obtain ⟨rows, rfl, h8, k⟩ := h; rfl
  case body =>
  obtain ⟨rows, rfl, h8, k⟩ := h
  have hu := hu_of hr
  refine ⟨_, PSs.nox (pss_cons (ps_if (pt_not (pt_val (pe_callB call_isi (by rfl) T.n_isinstance (by decide +kernel) (pa_cons (pv 0) (pa_cons (pe_bltn (v := .ty "str") rfl T.n_str (by decide +kernel) rfl) pa_nil))))) (pss_one (ps_ret pe_non)) pss_nil)
    (pss_cons (ps_if (pt_cmpR op_eq (pv 0) pe_str (nomark _)) (pss_one (ps_ret (pe_lst pa_nil))) pss_nil)
    (pss_cons (ps_set (i := 1) sc_rows_of.nd rfl (Or.inl rfl) (pe_split (pv 0) pe_str))
    (pss_cons (ps_if (pt_cmpR op_gt (pe_callB call_len_seq (by rfl) T.n_len (by decide +kernel) (pa_cons (pv 1) pa_nil)) (pe_glob (v := .int 8) rfl h_MOST_REQUIREMENTS ⟨_, rfl⟩) (nomark _)) (pss_one (ps_ret pe_non)) pss_nil)
    (pss_cons (ps_setLc (i := 2) (own := [("row", 3)]) rfl sc_rows_of.nd rfl rfl (sw_true rfl rfl rfl (by decide +kernel)) (pi_list (pe_lc (own := [("part", 4)]) rfl sc_rows_of.nd (pi_list (pv 1)) (blkOk_by (own := [("part", 4)]) (N := N_rows_of) (sc := defScope s_rows_of) (by decide +kernel)) (fun _ _ _ _ _ => (pg_name (i := 4) sc_rows_of.nd rfl (Or.inl rfl))) (fun _ _ _ _ _ => pts_nil) (fun _ _ _ _ _ => (pe_call G_requirement (hr.mono (by first | decide | omega)) rfl T.g_requirement k_requirement b_requirement .nil pass0 (pa_cons (pv 4) pa_nil))))) (blkOk_by (own := [("row", 3)]) (N := N_rows_of) (sc := defScope s_rows_of) (by decide +kernel)) (fun _ _ _ _ _ => (pg_name (i := 3) sc_rows_of.nd rfl (Or.inl rfl))) (fun _ _ _ _ _ => (pts_one (pt_cmpR op_notN (pv 3) pe_non (nomark _)))) (fun _ _ _ _ _ => (pv 3)))
    (pss_one (ps_ret (pe_ifExp (pt_cmpR op_eq (pe_callB call_len_seq (by rfl) T.n_len (by decide +kernel) (pa_cons (pv 2) pa_nil)) (pe_callB call_len_seq (by rfl) T.n_len (by decide +kernel) (pa_cons (pv 1) pa_nil)) (nomark _)) (pv 2) pe_non)))))))), ?_⟩
  refine ⟨_, rfl, .str (selT rows), .ty "str", _, _, _, rfl, .ty "str", .base (.str _), kit_str, _, rfl, ?_⟩
  refine iteF ⟨_, rfl, rfl, _, rfl, ?_⟩
  by_cases hne : rows = []
  · subst hne
    rw [selT_nil, decide_eq_true (show V.str "" = V.str "" from rfl)]
    exact iteT ⟨smallN (by decide), fun L hL => k L _ (Same.new hL) hL ⟨[], upd_same, .nil⟩⟩
  rw [decide_eq_false (show ¬ V.str (selT rows) = V.str "" from fun z => selT_ne h8 hne (by injection z))]
  refine iteF ?_
  refine ⟨_, rfl, ⟨_, rfl⟩, _, _, rfl, rfl, rfl, (by rw [sizeLine_eq]; have := selT_len h8; omega), fun p1 q1 => ?_⟩
  rw [selT_split h8 hne]
  have S1 := Same.new (u := .lst ((rows.map rowT).map V.str)) q1
  have g1 : (upd H p1 (.lst ((rows.map rowT).map V.str))) p1 = _ := upd_same
  generalize upd H p1 (.lst ((rows.map rowT).map V.str)) = H1 at S1 g1 ⊢
  have e1 : ((rows.map rowT).map V.str).length = rows.length := by rw [List.length_map, List.length_map]
  refine ⟨_, rfl, p1, _, rfl, .inl (SqL.of g1), _, _, rfl, rfl, _, rfl, ?_⟩
  rw [decide_eq_false (show ¬ (8 : Int) < (((rows.map rowT).map V.str).length : Int) by rw [e1]; have := h8.1; omega)]
  refine iteF ?_
  refine ⟨_, rfl, p1, rfl, ⟨_, SqL.of g1⟩, fun D1 hD1 => ?_⟩
  refine lc_list (K := K) (a := p1) (xs := (rows.map rowT).map V.str) (fun i H' => Same H1 H' ∧ ∃ ps : List Addr, H' D1 = some (.lst (ps.map V.ref)) ∧ Paired (RowAt H') ps (rows.take i)) ⟨Same.new hD1, [], upd_same, .nil⟩ (fun i H' _ p => SqL.of (p.1 _ _ g1)) ?_ ?_
  · rintro i x H2 hx ⟨S2, ps, gD, hp⟩
    rw [List.map_map, List.getElem?_map] at hx
    obtain ⟨r, er, rfl⟩ := Option.map_eq_some_iff.mp hx
    refine ⟨rfl, yes_ ?_⟩
    refine iteT ?_
    refine ⟨_, rfl, r, rfl, h8.2 r (mem_at er), fun p H3 S3 hr3 => ?_⟩
    have lp := paired_len hp
    refine ⟨_, S3 _ _ gD, small1000 (by rw [List.length_map, lp, List.length_take]; have := h8.1; omega), fun b o hb => ?_, ps ++ [p], ?_, ?_⟩
    · rw [upd_ne (ne_of_none hb hD1)]; exact S3 _ _ (S2 b o hb)
    · rw [upd_same, List.map_append]; rfl
    · rw [get_take er]
      have up : ∀ (a : Addr) (q : Row), RowAt H3 a q → RowAt (upd H3 D1 (.lst (ps.map V.ref ++ [.ref p]))) a q := fun a q hq => by
        unfold RowAt at hq ⊢
        rw [upd_ne (ne_of hq (S3 _ _ gD) fun z => by cases z)]; exact hq
      exact paired_snoc (up _ _ hr3) (Paired.mono (fun a q hq => up a q (S3 _ _ hq)) hp)
  · rintro H2 ⟨S2, ps, gD, hp⟩
    rw [e1, List.take_length] at hp
    have lp := paired_len hp
    refine ⟨D1, rfl, ⟨_, SqL.of gD⟩, fun D2 hD2 => ?_⟩
    refine lc_list (K := K) (a := D1) (xs := ps.map V.ref) (fun i H' => Same H2 H' ∧ H' D2 = some (.lst ((ps.take i).map V.ref))) ⟨Same.new hD2, upd_same⟩ (fun i H' _ p => SqL.of (p.1 _ _ gD)) ?_ ?_
    · rintro i x H3 hx ⟨S3, gD2⟩
      rw [List.getElem?_map] at hx
      obtain ⟨p, ep, rfl⟩ := Option.map_eq_some_iff.mp hx
      refine ⟨rfl, ?_⟩
      refine ⟨_, rfl, rfl, _, rfl, ?_⟩
      refine iteT ⟨_, rfl, _, gD2, small1000 (by rw [List.length_map, List.length_take]; have := h8.1; omega), fun b o hb => ?_, ?_⟩
      · rw [upd_ne (ne_of_none hb hD2)]; exact S3 b o hb
      · rw [upd_same, get_take ep, List.map_append]; rfl
    · rintro H3 ⟨S3, gD2⟩
      rw [List.length_map, List.take_length] at gD2
      have S13 := S2.trans S3
      refine ⟨_, rfl, D2, _, rfl, .inl (SqL.of gD2), _, rfl, p1, _, rfl, .inl (SqL.of (S13 _ _ g1)), rfl, _, rfl, ?_⟩
      rw [e1, List.length_map, lp, decide_eq_true rfl]
      refine iteT ⟨_, rfl, k D2 H3 (S1.trans S13) (S1.free (S2.free hD2)) ⟨ps, gD2, Paired.mono (fun a q hq => S3 _ _ hq) hp⟩⟩
def sp_requirements (K : PySem.W.Frag) : Sp := fun vs H Q _ => ∃ (rows : List Row), vs = [.str (selT rows)] ∧ Rows8 rows ∧ ∀ (L : Addr) (H' : Hp), Same H H' → H L = none → RowsAt H' L rows → Q (.ref L) H'
theorem ok_requirements {P : Program} {w : World} {K : PySem.W.Frag} {mg : Str → Option Value} {base : Heap} {fd : FuncData} (T : Txt K mg w) (F : FnP K "requirements" s_requirements [] fd) : FnOk P w K mg base CX0 4 (He.ga K "requirements") fd ps_requirements (sp_requirements K) := by
  obtain ⟨fd_rows_of, F_rows_of⟩ := T.d_rows_of
  have G_rows_of := ok_rows_of (P := P) (w := w) (base := base) T F_rows_of
  have k_rows_of := F_rows_of.kp
  have b_rows_of := bi_rows_of F_rows_of
  refine F.ok sc_requirements (fun vs H Q E h => ?len) (fun cdv A outer s H vs Q E hr h => ?body)
  case len => obtain ⟨rows, rfl, h8, k⟩ := h; rfl
  case body =>
  obtain ⟨rows, rfl, h8, k⟩ := h
  have hu := hu_of hr
  refine ⟨_, PSs.nox (pss_cons (ps_set (i := 1) sc_requirements.nd rfl (Or.inl rfl) (pe_call G_rows_of (hr.mono (by first | decide | omega)) rfl T.g_rows_of k_rows_of b_rows_of .nil pass0 (pa_cons (pv 0) pa_nil)))
    (pss_cons (ps_if (pt_cmpR op_isN (pv 1) pe_non (nomark _)) (pss_one ps_never) pss_nil)
    (pss_one (ps_ret (pv 1))))), ?_⟩
  exact ⟨_, rfl, rows, rfl, h8, fun L H' S hL hR => ⟨_, rfl, rfl, _, rfl, iteF ⟨_, rfl, k L H' S hL hR⟩⟩⟩

/-! ### a text times a number -/
def strRep (x : Str) (n : Int) : Str := if n < 1 then Str.empty else if (n == 1 || x.length == 0) = true then x else ⟨(List.replicate n.toNat x.cps).foldl (· ++ ·) #[]⟩
def rRepS : R2 := fun x y H Q => ∃ (z : Str) (n : Int), x = .str z ∧ y = .int n ∧ z.length ≤ 1000 ∧ -1000 ≤ n ∧ n ≤ 10000 ∧ Q (.str (strRep z n)) H
theorem rep_size (a : Array Nat) : ∀ (k : Nat) (acc : Array Nat), ((List.replicate k a).foldl (· ++ ·) acc).size = acc.size + k * a.size
  | 0, acc => by simp
  | k + 1, acc => by
    rw [List.replicate_succ, List.foldl_cons, rep_size a k, Array.size_append, Nat.succ_mul]
    omega
theorem op_rep_str {X : Cx} : OpR X (binaryOp .Mult) rRepS := by
  intro pins s σ H x y v u Q I rx ry h
  obtain ⟨z, n, rfl, rfl, h1, h2, h3, q⟩ := h
  obtain ⟨t, rfl⟩ := rx
  obtain ⟨t', rfl⟩ := ry
  have big : ¬ n < 1 → (z.length : Int) * n ≤ 1000 * 10000 := fun hn => Int.mul_le_mul (by omega) (by omega) (by omega) (by omega)
  refine PySem.P.mul_str ?_ (fun hn _ => ?_) (fun hn _ => ?_) ?_
  · rw [decide_eq_false (by omega), decide_eq_false (by omega)]; rfl
  · have := Int.le_ediv_of_mul_le (a := (z.length : Int)) (b := 2 ^ 63 - 1) (c := n) (by omega) (by have := big hn; omega)
    omega
  · have b := big hn
    have e : ((z.length * n.toNat : Nat) : Int) = (z.length : Int) * n := by rw [Int.natCast_mul, Int.toNat_of_nonneg (by omega)]
    unfold Builtin.Str.tooLong
    exact decide_eq_false (by rw [sizeLine_eq]; omega)
  · unfold strRep at q
    split
    · rename_i c
      rw [if_pos c] at q
      exact ⟨by decide, ⟨.str _, H, I.tok _, ⟨_, rfl⟩, q⟩⟩
    · rename_i c
      rw [if_neg c] at q
      split
      · rename_i d
        rw [if_pos d] at q
        exact ⟨.str _, H, I, ⟨_, rfl⟩, q⟩
      · rename_i d
        rw [if_neg d] at q
        refine ⟨?_, ⟨.str _, H, I.tok _, ⟨_, rfl⟩, q⟩⟩
        have b := big c
        have e : ((z.length * n.toNat : Nat) : Int) = (z.length : Int) * n := by rw [Int.natCast_mul, Int.toNat_of_nonneg (by omega)]
        have l := rep_size z.cps n.toNat #[]
        show ((List.replicate n.toNat z.cps).foldl (· ++ ·) #[]).size ≤ sizeLine
        rw [l, sizeLine_eq]
        have e2 : z.cps.size = z.length := rfl
        rw [e2, Nat.mul_comm]
        show 0 + z.length * n.toNat ≤ _
        omega

/-! ### a row fulfilled -/
def fulB (r : Row) (o : Option V) : Bool := match r.vb with
  | .is => decide (o = some (.str r.vl))
  | .not => !decide (o = some (.str r.vl))
  | .there => o.isSome
  | .missing => !o.isSome
def look (kvs : List (Str × Str)) (n : Str) : Option V := valV (labD kvs) (Sum.inr n)
theorem look_str : ∀ {kvs : List (Str × Str)} {n : Str} {v : V}, look kvs n = some v → ∃ x, v = .str x
  | [], n, v, h => by cases h
  | p :: r, n, v, h => by
    unfold look labD at h
    rw [List.map_cons] at h
    by_cases e : (Sum.inr p.1 : Key) = Sum.inr n
    · rw [valV_pos (p := (Sum.inr p.1, V.str p.2)) e] at h
      cases h
      exact ⟨_, rfl⟩
    · rw [valV_neg (p := (Sum.inr p.1, V.str p.2)) e] at h
      exact look_str (kvs := r) h
def sp_is_fulfilled (K : PySem.W.Frag) : Sp := fun vs H Q _ => ∃ (p d : Addr) (r : Row) (kvs : List (Str × Str)), vs = [.ref p, .ref d] ∧ RowAt H p r ∧ H d = some (.dK (labD kvs)) ∧ Q (.bl (fulB r (look kvs r.nm))) H
theorem dec_some (o x : Str) : decide (some (V.str o) = some (V.str x)) = decide (V.str o = V.str x) := by
  rw [decide_eq_decide]
  exact ⟨fun h => Option.some.inj h, fun h => congrArg some h⟩
theorem ok_is_fulfilled {P : Program} {w : World} {K : PySem.W.Frag} {mg : Str → Option Value} {base : Heap} {fd : FuncData} (T : Txt K mg w) (F : FnP K "is_fulfilled" s_is_fulfilled [] fd) : FnOk P w K mg base CX0 1 (He.ga K "is_fulfilled") fd ps_is_fulfilled (sp_is_fulfilled K) := by
  refine F.ok sc_is_fulfilled (fun vs H Q E h => ?len) (fun cdv A outer s H vs Q E hr h => ?body)
  case len => obtain ⟨p, d, r, kvs, rfl, hp, hd, k⟩ := h; rfl
  case body =>
  obtain ⟨p, d, r, kvs, rfl, hp, hd, k⟩ := h
  have hu := hu_of hr
  refine ⟨_, PSs.nox (pss_cons (ps_asg (pv 0) (pg_tup rfl (pgs_cons (pg_name (i := 2) sc_is_fulfilled.nd rfl (Or.inl rfl)) (pgs_cons (pg_name (i := 3) sc_is_fulfilled.nd rfl (Or.inl rfl)) (pgs_cons (pg_name (i := 4) sc_is_fulfilled.nd rfl (Or.inl rfl)) pgs_nil)))))
    (pss_cons (ps_if (pt_cmpR op_eq (pv 3) pe_str (nomark _)) (pss_one (ps_ret (pe_and (pe_cmp (pc_din hu (pv 2) (pv 1))) (pe_one (pe_cmpR op_eq (pe_dget hu (pv 1) (pv 2) (fun _ _ => rfl)) (pv 4) (nomark _)))))) pss_nil)
    (pss_cons (ps_if (pt_cmpR op_eq (pv 3) pe_str (nomark _)) (pss_one (ps_ret (pe_or (pe_cmp (pc_dnotin hu (pv 2) (pv 1))) (pe_one (pe_cmpR op_ne (pe_dget hu (pv 1) (pv 2) (fun _ _ => rfl)) (pv 4) (nomark _)))))) pss_nil)
    (pss_one (ps_ret (pe_cmpR op_eq (pe_cmp (pc_din hu (pv 2) (pv 1))) (pe_cmpR op_eq (pv 3) pe_str (nomark _)) (nomark _))))))), ?_⟩
  have hg : DGet H d (.str r.nm) (look kvs r.nm) := DGet.k (k := Sum.inr r.nm) hd
  have hs := @look_str kvs r.nm
  generalize look kvs r.nm = o at hg hs k
  refine ⟨_, rfl, p, _, rfl, SqT.of hp, rfl, _, _, rfl, _, _, rfl, _, _, rfl, rfl, ?_⟩
  refine ⟨_, rfl, rfl, _, rfl, ?_⟩
  unfold fulB at k
  cases evb : r.vb with
  | is =>
    rw [evb] at k
    refine iteT ⟨_, rfl, _, rfl, d, o, rfl, hg, _, rfl, ?_⟩
    cases o with
    | none => exact iteF k
    | some v =>
      obtain ⟨x, rfl⟩ := hs rfl
      refine iteT ⟨_, rfl, _, rfl, d, _, rfl, hg, _, rfl, rfl, ?_⟩
      dsimp only at k
      rw [dec_some] at k
      exact k
  | not =>
    rw [evb] at k
    refine iteF ⟨_, rfl, rfl, _, rfl, ?_⟩
    refine iteT ⟨_, rfl, _, rfl, d, o, rfl, hg, _, rfl, ?_⟩
    cases o with
    | none => exact iteT k
    | some v =>
      obtain ⟨x, rfl⟩ := hs rfl
      refine iteF ⟨_, rfl, _, rfl, d, _, rfl, hg, _, rfl, rfl, ?_⟩
      dsimp only at k
      rw [dec_some] at k
      exact k
  | there =>
    rw [evb] at k
    refine iteF ⟨_, rfl, rfl, _, rfl, ?_⟩
    refine iteF ⟨_, rfl, _, rfl, d, o, rfl, hg, _, rfl, rfl, rfl, ?_⟩
    cases o with
    | none => exact k
    | some v => exact k
  | missing =>
    rw [evb] at k
    refine iteF ⟨_, rfl, rfl, _, rfl, ?_⟩
    refine iteF ⟨_, rfl, _, rfl, d, o, rfl, hg, _, rfl, rfl, rfl, ?_⟩
    cases o with
    | none => exact k
    | some v => exact k
/-- all rows fulfilled -/
def fulAll (rows : List Row) (kvs : List (Str × Str)) : Bool := rows.all fun r => fulB r (look kvs r.nm)
def sp_matches (K : PySem.W.Frag) : Sp := fun vs H Q _ => ∃ (d : Addr) (rows : List Row) (kvs : List (Str × Str)), vs = [.str (selT rows), .ref d] ∧ Rows8 rows ∧ H d = some (.dK (labD kvs)) ∧ LabOk kvs ∧ ∀ H', Same H H' → Q (.bl (fulAll rows kvs)) H'
theorem ok_matches {P : Program} {w : World} {K : PySem.W.Frag} {mg : Str → Option Value} {base : Heap} {fd : FuncData} (T : Txt K mg w) (F : FnP K "matches" s_matches [] fd) : FnOk P w K mg base CX0 5 (He.ga K "matches") fd ps_matches (sp_matches K) := by
  obtain ⟨fd_requirements, F_requirements⟩ := T.d_requirements
  have G_requirements := ok_requirements (P := P) (w := w) (base := base) T F_requirements
  have k_requirements := F_requirements.kp
  have b_requirements := bi_requirements F_requirements
  obtain ⟨fd_is_labels, F_is_labels⟩ := T.d_is_labels
  have G_is_labels := ok_is_labels (P := P) (w := w) (base := base) T F_is_labels
  have k_is_labels := F_is_labels.kp
  have b_is_labels := bi_is_labels F_is_labels
  obtain ⟨fd_is_fulfilled, F_is_fulfilled⟩ := T.d_is_fulfilled
  have G_is_fulfilled := ok_is_fulfilled (P := P) (w := w) (base := base) T F_is_fulfilled
  have k_is_fulfilled := F_is_fulfilled.kp
  have b_is_fulfilled := bi_is_fulfilled F_is_fulfilled
  refine F.ok sc_matches (fun vs H Q E h => ?len) (fun cdv A outer s H vs Q E hr h => ?body)
  case len => obtain ⟨d, rows, kvs, rfl, h8, hd, ok, k⟩ := h; rfl
  case body =>
  obtain ⟨d, rows, kvs, rfl, h8, hd, ok, k⟩ := h
  have hu := hu_of hr
  refine ⟨_, PSs.nox (pss_cons (ps_set (i := 2) sc_matches.nd rfl (Or.inl rfl) (pe_call G_requirements (hr.mono (by first | decide | omega)) rfl T.g_requirements k_requirements b_requirements .nil pass0 (pa_cons (pv 0) pa_nil)))
    (pss_cons (ps_if (pt_not (pt_val (pe_call G_is_labels (hr.mono (by first | decide | omega)) rfl T.g_is_labels k_is_labels b_is_labels .nil pass0 (pa_cons (pv 1) pa_nil)))) (pss_one ps_never) pss_nil)
    (pss_one (ps_ret (pe_callB (cr_all rfl) (by rfl) T.n_all (by decide +kernel) (pa_cons (pe_lc (own := [("row", 3)]) rfl sc_matches.nd (pi_list (pv 2)) (blkOk_by (own := [("row", 3)]) (N := N_matches) (sc := defScope s_matches) (by decide +kernel)) (fun _ _ _ _ _ => (pg_name (i := 3) sc_matches.nd rfl (Or.inl rfl))) (fun _ _ _ _ _ => pts_nil) (fun _ _ _ _ _ => (pe_call G_is_fulfilled (hr.mono (by first | decide | omega)) rfl T.g_is_fulfilled k_is_fulfilled b_is_fulfilled .nil pass0 (pa_cons (pv 3) (pa_cons (pv 1) pa_nil))))) pa_nil)))))), ?_⟩
  refine ⟨_, rfl, rows, rfl, h8, fun L H1 S1 hL hR => ?_⟩
  refine ⟨_, rfl, d, kvs, rfl, S1 _ _ hd, ok, fun H2 S2 => ⟨_, rfl, iteF ?_⟩⟩
  obtain ⟨ps, gL, hp⟩ := rows_same S2 hR
  have hd2 := S2 _ _ (S1 _ _ hd)
  have lp := paired_len hp
  refine ⟨_, rfl, L, rfl, ⟨_, SqL.of gL⟩, fun D hD => ?_⟩
  refine lc_list (K := K) (a := L) (xs := ps.map V.ref) (fun i H' => Same H2 H' ∧ H' D = some (.lst ((rows.take i).map fun r => V.bl (fulB r (look kvs r.nm))))) ⟨Same.new hD, upd_same⟩ (fun i H' _ p => SqL.of (p.1 _ _ gL)) ?_ ?_
  · rintro i x H3 hx ⟨S3, gD⟩
    rw [List.getElem?_map] at hx
    obtain ⟨p, ep, rfl⟩ := Option.map_eq_some_iff.mp hx
    obtain ⟨r, er, hr1⟩ : ∃ r, rows[i]? = some r ∧ RowAt H2 p r := paired_at hp ep
    refine ⟨rfl, yes_ ?_⟩
    refine iteT ?_
    refine ⟨_, rfl, _, rfl, p, d, r, kvs, rfl, S3 _ _ hr1, S3 _ _ hd2, ?_⟩
    refine ⟨_, gD, small1000 (by rw [List.length_map, List.length_take]; have := h8.1; omega), fun b o hb => ?_, ?_⟩
    · rw [upd_ne (ne_of_none hb hD)]; exact S3 b o hb
    · rw [upd_same, get_take er, List.map_append]; rfl
  · rintro H3 ⟨S3, gD⟩
    rw [List.length_map, lp, List.take_length] at gD
    have gD2 : H3 D = some (.lst ((rows.map fun r => fulB r (look kvs r.nm)).map V.bl)) := by rw [gD, List.map_map]; rfl
    refine ⟨D, rows.map fun r => fulB r (look kvs r.nm), rfl, SqL.of gD2, ?_⟩
    have q := k H3 (S1.trans (S2.trans S3))
    have e : fulAll rows kvs = (rows.map fun r => fulB r (look kvs r.nm)).all id := by unfold fulAll; rw [List.all_map]; rfl
    rw [e] at q
    exact q

theorem look_none : ∀ {kvs : List (Str × Str)} {n : Str}, n ∉ kvs.map (·.1) → look kvs n = none
  | [], _, _ => rfl
  | p :: r, n, h => by
    unfold look labD
    rw [List.map_cons, valV_neg (p := (Sum.inr p.1, V.str p.2)) (fun e => h (by injection e with e; rw [← e]; simp))]
    exact look_none (kvs := r) fun z => h (by rw [List.map_cons]; exact List.mem_cons_of_mem _ z)
theorem look_mem : ∀ {kvs : List (Str × Str)} {p : Str × Str}, (kvs.map (·.1)).Nodup → p ∈ kvs → look kvs p.1 = some (.str p.2)
  | [], _, _, h => by cases h
  | q :: r, p, nd, h => by
    rw [List.map_cons, List.nodup_cons] at nd
    unfold look labD
    rw [List.map_cons]
    by_cases e : q.1 = p.1
    · have : p = q := by
        rcases List.mem_cons.mp h with z | z
        · exact z
        · exact absurd (e ▸ List.mem_map_of_mem z) nd.1
      subst this
      exact valV_pos rfl
    · rw [valV_neg (p := (Sum.inr q.1, V.str q.2)) (fun z => e (by injection z))]
      rcases List.mem_cons.mp h with z | z
      · exact absurd (by rw [z]) e
      · exact look_mem nd.2 z
theorem merge_app : ∀ (l acc : List (Key × V)), ((acc ++ l).map (·.1)).Nodup → mergeK acc l = acc ++ l
  | [], acc, _ => by rw [List.append_nil]; rfl
  | p :: r, acc, h => by
    have e : valV acc p.1 = none := by
      cases q : valV acc p.1 with
      | none => rfl
      | some v =>
        exfalso
        have q1 := valV_any p.1 acc
        rw [q] at q1
        obtain ⟨z, hz, ez⟩ := List.any_eq_true.mp q1
        have ez := of_decide_eq_true ez
        rw [List.map_append, List.nodup_append] at h
        exact h.2.2 z.1 (List.mem_map_of_mem hz) p.1 (by simp) ez
    show mergeK (putK acc p.1 p.2) r = _
    rw [putK_new _ e, merge_app r _ (by rw [List.append_assoc]; exact h), List.append_assoc]; rfl
theorem nd_rev {α : Type} {l : List α} (h : l.Nodup) : l.reverse.Nodup := by
  unfold List.Nodup at h ⊢
  rw [List.pairwise_reverse]
  exact h.imp fun hn e => hn e.symm
theorem lab_keys (kvs : List (Str × Str)) : (labD kvs).map (·.1) = (kvs.map (·.1)).map Sum.inr := by
  unfold labD; rw [List.map_map, List.map_map]; rfl
theorem nd_inr {l : List Str} (h : l.Nodup) : (l.map (Sum.inr : Str → Key)).Nodup := by
  unfold List.Nodup at h ⊢
  rw [List.pairwise_map]
  exact h.imp fun hn e => hn (by injection e)

/-! ### texts in order -/
def leS (x y : Str) : Prop := ¬ (y.cps.toList < x.cps.toList)
theorem leS_trans {x y z : Str} (h : leS x y) (g : leS y z) : leS x z := List.le_trans (l₁ := x.cps.toList) (l₂ := y.cps.toList) (l₃ := z.cps.toList) h g
theorem leS_antisymm {x y : Str} (h : leS x y) (g : leS y x) : x = y := by
  have e : x.cps.toList = y.cps.toList := List.le_antisymm h g
  obtain ⟨a⟩ := x
  obtain ⟨b⟩ := y
  simp only [Str.mk.injEq] at e ⊢
  exact Array.toList_inj.mp e
/-- risingS looks at neighbours only: with a first text ahead it says that neighbours are in order -/
theorem rising_two {p x : Str} {r : List Str} : PyProof.Rows.risingS p (x :: r) = true ↔ leS p x ∧ PyProof.Rows.risingS x r = true := by
  show (!ltCps x.cps.toList p.cps.toList && PyProof.Rows.risingS x r) = true ↔ _
  rw [Bool.and_eq_true, PyProof.Rows.ltCps_eq, Bool.not_eq_true', decide_eq_false_iff_not]
  exact Iff.rfl
theorem rising_ahead {p : Str} {r : List Str} (h : PyProof.Rows.risingS p r = true) : ∀ y ∈ r, leS p y := by
  induction r generalizing p with
  | nil => exact fun y hy => nomatch hy
  | cons x r more =>
    have ⟨px, xr⟩ := rising_two.mp h
    exact fun y hy => (List.mem_cons.mp hy).elim (fun e => e ▸ px) fun hm => leS_trans px (more xr y hm)
theorem sortedS_iff (l : List Str) : PyProof.Rows.sortedS l = true ↔ l.Pairwise leS := by
  induction l with
  | nil => exact ⟨fun _ => .nil, fun _ => rfl⟩
  | cons p r more =>
    have step : PyProof.Rows.risingS p r = true ↔ (∀ y ∈ r, leS p y) ∧ PyProof.Rows.sortedS r = true := by
      match r with
      | [] => exact ⟨fun _ => ⟨fun _ hy => absurd hy List.not_mem_nil, rfl⟩, fun _ => rfl⟩
      | x :: r => exact ⟨fun h => ⟨rising_ahead h, (rising_two.mp h).2⟩, fun ⟨a, s⟩ => rising_two.mpr ⟨a x List.mem_cons_self, s⟩⟩
    exact step.trans ((and_congr_right fun _ => more).trans List.pairwise_cons.symm)
/-- there is one order -/
theorem sortedS_one {xs ys zs : List Str} (h1 : ys.Perm xs) (s1 : PyProof.Rows.sortedS ys = true) (h2 : zs.Perm xs) (s2 : PyProof.Rows.sortedS zs = true) : ys = zs :=
  List.Perm.eq_of_pairwise (le := leS) (fun _ _ _ _ h g => leS_antisymm h g) ((sortedS_iff _).mp s1) ((sortedS_iff _).mp s2) (h1.trans h2.symm)
def leB (x y : Str) : Bool := !decide (y.cps.toList < x.cps.toList)
def srt (xs : List Str) : List Str := xs.mergeSort leB
theorem srt_perm (xs : List Str) : (srt xs).Perm xs := List.mergeSort_perm xs leB
theorem srt_sorted (xs : List Str) : PyProof.Rows.sortedS (srt xs) = true := by
  rw [sortedS_iff]
  have h := List.pairwise_mergeSort (le := leB) (fun a b c h g => by
    have h := of_decide_eq_false (Bool.not_eq_true' _ |>.mp h)
    have g := of_decide_eq_false (Bool.not_eq_true' _ |>.mp g)
    exact Bool.not_eq_true' _ |>.mpr (decide_eq_false (leS_trans (x := a) (y := b) (z := c) h g)))
    (fun a b => by
      rcases List.le_total a.cps.toList b.cps.toList with h | h
      · exact Bool.or_eq_true_iff.mpr (.inl (Bool.not_eq_true' _ |>.mpr (decide_eq_false h)))
      · exact Bool.or_eq_true_iff.mpr (.inr (Bool.not_eq_true' _ |>.mpr (decide_eq_false h)))) xs
  exact h.imp fun {a b} h => of_decide_eq_false (Bool.not_eq_true' _ |>.mp h)
theorem srt_eq {xs ys : List Str} (h : ys.Perm xs) (s : PyProof.Rows.sortedS ys = true) : ys = srt xs := sortedS_one h s (srt_perm xs) (srt_sorted xs)
/-- sorted(d), within a comprehension -/
def rSD : List V → Hp → VK → Prop := fun xs H Q => ∃ (a : Addr) (kvs : List (Key × V)) (ks : List Str), xs = [.ref a] ∧ Rd H a (.dK kvs) ∧ kvs.map (·.1) = ks.map Sum.inr ∧ ks.length < 64 ∧
  ∀ ys p, ys.Perm ks → sortedS ys = true → H p = none → Q (.ref p) (upd H p (.lst (ys.map V.str)))

/-! ### sets of texts: at a lies a set of just the texts l, which can be walked -/
structure TxAt (P : Program) (w : World) (h : Heap) (a : Addr) (l : List Str) : Prop where
  once : l.Nodup
  lies : ∃ D : PySem.Froz.SD, h.get? a = some (PySem.Froz.sObj "set" D) ∧ PySem.Froz.TxOk P w D l ∧ Ris D.2.2.place.toList ∧ (w.params.followText "set-order" = true ∨ D.2.2.led = true)
/-- a text put in -/
def insT (l : List Str) (k : Str) : List Str := if k ∈ l then l else k :: l
theorem insT_once {l : List Str} {k : Str} (h : l.Nodup) : (insT l k).Nodup := by
  unfold insT; split <;> first | exact h | exact List.nodup_cons.mpr ⟨by assumption, h⟩
theorem insT_len (l : List Str) (k : Str) : (insT l k).length ≤ l.length + 1 := by
  unfold insT; split <;> simp
theorem insT_mem {l : List Str} {k x : Str} : x ∈ insT l k ↔ x ∈ l ∨ x = k := by
  unfold insT
  by_cases e : k ∈ l
  · rw [if_pos e]; exact ⟨.inl, fun z => z.elim id fun q => q ▸ e⟩
  · rw [if_neg e, List.mem_cons]; exact Or.comm
/-- the payload behind the add of a text that was not there: its places rise as before, its order is led as before -/
theorem addTx_walk {D : PySem.Froz.SD} (n : Int) (v : Value) (r : Ris D.2.2.place.toList) : Ris (PySem.Froz.addTx n v D).2.2.place.toList ∧ (PySem.Froz.addTx n v D).2.2.led = D.2.2.led := by
  have a := layNew_ris D.2.2 D.1 n v r
  have b := layNew_led D.2.2 D.1 n v
  have tail : ∀ (t : SetTable) (es : Array (Int × Value)) (d : Bool), Ris t.place.toList → t.led = D.2.2.led → Ris (PySem.Froz.tailTx D.2.1 es t d).2.2.place.toList ∧ (PySem.Froz.tailTx D.2.1 es t d).2.2.led = D.2.2.led := fun t es d x y => by
    unfold PySem.Froz.tailTx; split
    · exact ⟨relayAll_ris .., (relayAll_led ..).trans y⟩
    · exact ⟨x, y⟩
  refine tail _ _ _ ?_ ?_ <;> split <;> first | exact a | exact b
section
variable {P : Program} {w : World} {A : Around} {E : Value → Shared → Prop} {s : Shared} {a : Addr} {l : List Str} {k : Str} {u : Tok}
theorem TxAt.moves {h h' : Heap} (R : TxAt P w h a l) (m : ∀ o, h.get? a = some o → h'.get? a = some o) : TxAt P w h' a l :=
  ⟨R.once, have ⟨D, at_, r⟩ := R.lies; ⟨D, m _ at_, r⟩⟩
theorem TxAt.is (R : TxAt P w s.heap a l) : s.TypeIs (.ref a) "set" := have ⟨_, at_, _⟩ := R.lies; ⟨_, at_, rfl⟩
/-- a text that is there is found by the scan: nothing changes -/
theorem put_seen {D : PySem.Froz.SD} {Q : Bool → Shared → Prop} (at_ : s.heap.get? a = some (PySem.Froz.sObj "set" D)) (F : PySem.Froz.TxOk P w D l) (few : l.length < scanBound) (seen : k ∈ l) (q : Q false s) :
    wpAny (model P w) A (setAddHashed a (.str k u) (hashStr w k)) Q E s := by
  have ⟨e, he, is_⟩ := (F.mem k).mp seen
  have scan := byScan_of (x := .str k u) (knd := PySem.strKind P w) rfl (F.sz ▸ few) F.el
  simp only [setAddHashed]
  refine wpAny_holding ?_
  delta setAddHashedIn; dsimp only
  refine wpAny_bind (wpAny_setState_of (o := PySem.Froz.sObj "set" D) at_ rfl F.fit ?_); dsimp only
  rw [scan, if_pos rfl]; simp only [setAddByScan, bind_assoc]
  refine wpAny_bind (wpAny_rule (wpAny_bind (wpAny_setScan_of (knd := PySem.strKind P w) (k := k) (PySem.Froz.is_str k u) at_ rfl F.fit F.el ?_)))
  cases place : D.1.toList.findIdx? fun e => (PySem.strKind P w).is k e.2 with
  | none => exact absurd is_ (by rw [List.findIdx?_eq_none_iff.mp place e he]; decide)
  | some j => exact wpAny_bind (wpAny_pure (wpAny_pure q))
theorem TxAt.put {Q : Bool → Shared → Prop} (R : TxAt P w s.heap a l) (room : l.length + 1 < scanBound) (q : ∀ b h', Heap.SameBut a s.heap h' → TxAt P w h' a (insT l k) → Q b { s with heap := h' }) :
    wpAny (model P w) A (setAddHashed a (.str k u) (hashStr w k)) Q E s := by
  have ⟨D, at_, F, rise, led⟩ := R.lies
  by_cases seen : k ∈ l
  · exact put_seen at_ F (by omega) seen (q false s.heap (Heap.SameBut.refl a s.heap) (by unfold insT; rw [if_pos seen]; exact R))
  · have ⟨rise', led'⟩ := addTx_walk (D := D) (hashStr w k) (.str k u) rise
    exact PySem.Froz.add_x at_ F seen room (q true _ (Heap.SameBut.update s.heap a _) ⟨insT_once R.once, _, PySem.Froz.get_upd _ at_ rfl, by unfold insT; rw [if_neg seen]; exact PySem.Froz.add_ok u F, rise', led.imp id fun z => led'.trans z⟩)
/-- s.add(k) -/
theorem TxAt.add {Q : Value → Shared → Prop} (R : TxAt P w s.heap a l) (room : l.length + 1 < scanBound) (q : ∀ h', Heap.SameBut a s.heap h' → TxAt P w h' a (insT l k) → Q .none { s with heap := h', toks := s.toks + 1 }) :
    wpAny (model P w) A (call (.builtin "set.add") [.ref a, .str k u]) Q E s := by
  refine wpAny_call_entry F.slot_set_add R.is F.entry_set_add ?_ (F.args_set_add_2 _ _)
  simp only [Builtin.«set.add», Builtin.Frozenset.oneOther, Builtin.Frozenset.addrOf, setAdd, List.isEmpty_nil, bind_assoc]
  refine wpAny_bind (wpAny_pure (wpAny_bind (wpAny_pure (wpAny_bind (wpAny_holding (wpAny_bind ((PySem.strKind P w).pyHash (PySem.Froz.is_str k u) ?_)))))))
  exact TxAt.put (s := { s with toks := s.toks + 1 }) R room fun b h' sb r => wpAny_pure ⟨_, rfl, q h' sb r⟩
end
/-- as a tracked thing -/
def TxO (P : Program) (w : World) (a : Addr) (l : List Str) : HO := .ext fun h => TxAt P w h a l
abbrev freshO (w : World) : Obj := { cls := .type "set", dict := none, data := .set #[] 0 (.fresh 0 0 (!w.params.followText "set-order")) }
theorem TxAt.fresh {P : Program} {w : World} {h : Heap} {a : Addr} (at_ : h.get? a = some (freshO w)) : TxAt P w h a [] :=
  ⟨.nil, (#[], 0, .fresh 0 0 (!w.params.followText "set-order")), at_, PySem.Froz.TxOk.nil rfl, .nil, by cases w.params.followText "set-order" <;> first | exact .inl rfl | exact .inr rfl⟩
theorem TxAt.ok {P : Program} {w : World} {H : Hp} {h : Heap} {a : Addr} {l : List Str} (R : TxAt P w h a l) : ObjOk P w H h a (TxO P w a l) :=
  ⟨R, have ⟨_, at_, _⟩ := R.lies; ⟨_, at_⟩, fun _ _ r m => TxAt.moves r m⟩
section
variable {X : Cx} {pins : List (Addr × Obj)} {σ : L2.St} {H : Hp} {s : Shared} {a : Addr} {l : List Str}
theorem tx_at (I : Inv X pins σ H s) (at_ : H a = some (TxO X.prog X.w a l)) : TxAt X.prog X.w s.heap a l := (I.hok a _ at_).1
/-- what add leaves -/
theorem tx_add {k : Str} {u : Value} {A : Around} {E : Value → Shared → Prop} {Q : Value → Shared → Prop} (I : Inv X pins σ H s) (at_ : H a = some (TxO X.prog X.w a l)) (room : l.length + 1 < scanBound) (rel : RelV (.str k) u)
    (q : ∀ s', Inv X pins σ (upd H a (TxO X.prog X.w a (insT l k))) s' → Q .none s') : wpAny (model X.prog X.w) A (call (.builtin "set.add") [.ref a, u]) Q E s := by
  obtain ⟨t, rfl⟩ := rel
  exact TxAt.add (tx_at I at_) room fun h' sb new => q _ (I.write (e := a) (t' := s.toks + 1) (by rw [at_]; trivial) (.inl rfl) (fun b o nb old => (sb.2 b nb).trans old) (have ⟨_, there, _⟩ := new.lies; ⟨_, there⟩) new.ok)
/-- sorted(s), fewer than 64 texts -/
def rSortTx (P : Program) (w : World) : List V → Hp → VK → Prop := fun vs H Q => ∃ (a : Addr) (l : List Str), vs = [.ref a] ∧ H a = some (TxO P w a l) ∧ l.length < 64 ∧ ∀ p, H p = none → Q (.ref p) (upd H p (.lst ((srt l).map V.str)))
theorem str_of_is {P : Program} {w : World} {k : Str} {v : Value} (h : (PySem.strKind P w).is k v = true) : ∃ t, v = .str k t := by
  revert h
  show Value.isStrOf k v = true → _
  cases v with
  | str z t => exact fun h => ⟨t, by rw [eq_of_beq (show (z == k) = true from h)]⟩
  | _ => exact fun h => absurd h (by simp [Value.isStrOf])
/-- values that are texts, as texts -/
theorem strs_each : ∀ {vs : List Value}, (∀ v ∈ vs, ∃ k t, v = Value.str k t) → ∃ ks, StrsAre vs ks ∧ ∀ k, k ∈ ks ↔ ∃ t, Value.str k t ∈ vs
  | [], _ => ⟨[], .nil, fun k => by simp⟩
  | v :: vs, h => by
    obtain ⟨k, t, rfl⟩ := h v List.mem_cons_self
    obtain ⟨ks, a, b⟩ := strs_each fun u hu => h u (List.mem_cons_of_mem _ hu)
    refine ⟨k :: ks, .cons k t a, fun x => ?_⟩
    simp only [List.mem_cons, b x, Value.str.injEq]
    exact ⟨fun z => z.elim (fun e => ⟨t, .inl ⟨e, rfl⟩⟩) fun ⟨u, q⟩ => ⟨u, .inr q⟩, fun ⟨u, z⟩ => z.elim (fun e => .inl e.1) fun q => .inr ⟨u, q⟩⟩
/-- two lists of one length, one without doubles and within the other: the same but for their order -/
theorem perm_within : ∀ {l ks : List Str}, l.Nodup → (∀ x ∈ l, x ∈ ks) → ks.length = l.length → ks.Perm l
  | [], ks, _, _, e => by rw [List.length_eq_zero_iff.mp e]
  | x :: r, ks, nd, sub, e => by
    have ⟨nx, nr⟩ := List.nodup_cons.mp nd
    have hx := sub x List.mem_cons_self
    have p := List.perm_cons_erase hx
    have len : (ks.erase x).length = r.length := by
      have := p.length_eq
      simp only [List.length_cons] at this e
      omega
    exact p.trans ((perm_within nr (fun y hy => (List.mem_erase_of_ne fun z : y = x => nx (z ▸ hy)).mpr (sub y (List.mem_cons_of_mem _ hy))) len).cons x)
/-- what is gathered of it -/
theorem TxAt.gathered {P : Program} {w : World} {A : Around} {E : Value → Shared → Prop} {Q : List Value → Shared → Prop} (R : TxAt P w s.heap a l) (calm : A.handled = none) (few : l.length < scanBound)
    (q : ∀ s' vs ks, (∀ b o, s.heap.get? b = some o → s'.heap.get? b = some o) → s.heap.objs.size ≤ s'.heap.objs.size → s'.gens = s.gens → s'.os = s.os → StrsAre vs ks → ks.Perm l → Q vs s') : wpAny (model P w) A (collect (.ref a)) Q E s := by
  have ⟨D, at_, F, rise, led⟩ := R.lies
  refine collect_set calm ⟨_, at_, rfl, rfl⟩ F.fit (F.sz ▸ few) rise led fun s' vs keep big gens os perm => ?_
  have texts : ∀ v ∈ vs, ∃ k t, v = Value.str k t := fun v hv => by
    obtain ⟨e, he, rfl⟩ := List.mem_map.mp (perm.mem_iff.mp hv)
    have ⟨⟨k, is_, _⟩, _⟩ := F.el e he
    exact ⟨k, str_of_is is_⟩
  have ⟨ks, are, mem⟩ := strs_each texts
  refine q s' vs ks keep big gens os are (perm_within R.once (fun x hx => ?_) ?_)
  · have ⟨e, he, is_⟩ := (F.mem x).mp hx
    have ⟨t, et⟩ := str_of_is is_
    exact (mem x).mpr ⟨t, perm.mem_iff.mpr (List.mem_map.mpr ⟨e, he, et⟩)⟩
  · have l1 : vs.length = ks.length := are.length
    have l2 := perm.length_eq
    rw [List.length_map, Array.length_toList (xs := D.1), F.sz] at l2
    exact l1.symm.trans l2
theorem cr_sortTx (calm : X.calm = true) : CallR X (.builtin "sorted") (rSortTx X.prog X.w) := fun pins s σ H vs us Q I rel ⟨a, l, e, at_, few, q⟩ => by
  subst e
  rw [Vals.ref1 rel]
  refine Calls.call_function_entry kind_sorted plain_sorted entry_sorted (args_sorted1 _) (wpAny_bind (m := checkCount "sorted" 1 1 _) (wpAny_pure (wpAny_bind (TxAt.gathered (tx_at I at_) (I.ok.hd calm) (by unfold scanBound; omega) fun s1 vs ks keep big gens os are perm => ?_))))
  have len : vs.length < 64 := by rw [are.length, perm.length_eq]; exact few
  have there : (s1.heap.push (seqObj "list" vs.toArray 0)).get? s1.heap.objs.size = some (seqObj "list" vs.toArray 0) := Heap.get?_push_size _ rfl
  refine wpAny_bind (wpAny_newList (wpAny_bind (wpAny_holding (wpAny_call_entry slot_list_sort ⟨_, there, rfl⟩ entry_list_sort (list_sort_treeK strKind_oneLt there are.keysOf (fun _ _ _ e => keyKind_strs (e ▸ are)) len fun st p1 p2 => ⟨_, rfl, ?_⟩) (args_list_sort _)))) (by rw [sizeLine_eq]; omega))
  have ⟨ys, y1, y2, y3⟩ := sorted_out_str are p1 p2
  have ⟨c, laid⟩ := sortedHeap_at (vs := vs) (out := (arrOf st).map (·.2)) there
  have ey : ys = srt l := srt_eq (y2.trans perm) y3
  subst ey
  have free : H s1.heap.objs.size = none := I.hok.fresh big
  have kept : ∀ b o, s.heap.get? b = some o → (sortedHeap (s1.heap.push (seqObj "list" vs.toArray 0)) s1.heap.objs.size vs ((arrOf st).map (·.2))).get? b = some o := fun b o old => by
    have old1 := keep b o old
    have lt := Heap.lt_size old1
    rw [sortedHeap_old (Nat.ne_of_lt lt) (by rw [size_push']; exact Nat.lt_succ_of_lt lt)]
    exact Heap.get?_push_of_some _ old1
  have long : ((srt l).map V.str).length ≤ sizeLine := by rw [List.length_map, (srt_perm l).length_eq, sizeLine_eq]; omega
  exact wpAny_pure ⟨_, rfl, .ref _, upd H s1.heap.objs.size (.lst ((srt l).map V.str)), I.call' (ch := []) os (Un.laid kept big free) (I.hok.laid kept big ⟨long, _, c, vals_of_strs y1, by rw [Array.toArray_toList]; exact laid⟩) (by rw [gens]; exact I.bare) (fun _ z => nomatch z), rfl, q _ free⟩
end

/-! ### turns over a walk: one lemma for every kind of comprehension -/
/-- the turns of a comprehension that walks J, from the heap start: Fin holds behind the last one -/
abbrev Turns (J : It) (start : Hp) (Fin : Hp → Prop) (step : (Hp → Prop) → V → Hp → Prop) : Prop := ∃ W : Nat → Nat → Hp → Prop, (∃ m, W 0 m start) ∧ ∀ at_ left now, W at_ left now →
  (J.stop at_ now ∧ Fin now) ∨ (J.go at_ now ∧ ∃ Nx : Hp → Prop, (∀ h, Nx h → ∃ m', m' < left ∧ W (at_ + 1) m' h) ∧ ∀ item h, J.yld at_ now item h → step Nx item h)
/-- step Nx x H: what a turn with the item x asks, Nx what it must leave. The measure is what is left of the walk. -/
theorem turns {J : It} {len : Nat} {G : Hp → Prop} {Y : Nat → Hp → V → Hp → Prop} (wk : Walk J len G Y) {step : (Hp → Prop) → V → Hp → Prop} {start : Hp} {Fin : Hp → Prop} (Inv' : Nat → Hp → Prop)
    (begin_ : Inv' 0 start) (open_ : ∀ {at_ now}, at_ ≤ len → Inv' at_ now → G now)
    (turn_ : ∀ {at_ now item then_}, at_ < len → Inv' at_ now → Y at_ now item then_ → step (Inv' (at_ + 1)) item then_) (end_ : ∀ {now}, Inv' len now → Fin now) :
    Turns J start Fin step :=
  ⟨fun at_ left now => at_ + left = len ∧ Inv' at_ now, ⟨len, Nat.zero_add len, begin_⟩, fun at_ left now ⟨sum, holds⟩ => match left, sum with
    | 0, sum => have all : at_ = len := sum
      .inl ⟨all ▸ wk.stops now (open_ (Nat.le_refl len) (all ▸ holds)), end_ (all ▸ holds)⟩
    | more + 1, sum => have lt : at_ < len := by omega
      have g := open_ (Nat.le_of_lt lt) holds
      .inr ⟨wk.goes at_ now lt g, Inv' (at_ + 1), fun h nx => ⟨more, Nat.lt_succ_self more, by omega, nx⟩, fun item h y => turn_ lt holds (wk.yields at_ now item h lt g y)⟩⟩
/-- a dict comprehension over a walk: what a turn asks -/
abbrev dcStep (g : TG) (tt : TT) (tk tv : TE) (vs : List Nat) (σ : L2.St) (D : Addr) : (Hp → Prop) → V → Hp → Prop := fun Nx x H' => g x (wipe σ vs) H' fun σ2 H2 => wipe σ2 vs = wipe σ vs ∧ tt σ2 H2 fun b H3 =>
  if b = true then tk σ2 H3 fun y H4 => tv σ2 H4 fun z H5 => ∃ kvs k, y = kV k ∧ H5 D = some (.dK kvs) ∧ kvs.length < sizeLine ∧ Nx (upd H5 D (.dK (putK kvs k z))) else Nx H3
theorem dc_it {J : It} {n : Nat} {G : Hp → Prop} {Y : Nat → Hp → V → Hp → Prop} (w : Walk J n G Y) {g : TG} {tt : TT} {tk tv : TE} {vs : List Nat} {σ : L2.St} {H1 : Hp} {D : Addr} {Qd : Hp → Prop} (Pv : Nat → Hp → Prop) (h0 : Pv 0 (upd H1 D (.dK []))) (hG : ∀ i H, i ≤ n → Pv i H → G H)
    (hs : ∀ i x H H', i < n → Pv i H → Y i H x H' → dcStep g tt tk tv vs σ D (Pv (i + 1)) x H') (hd : ∀ H, Pv n H → Qd H) : Turns J (upd H1 D (.dK [])) Qd (dcStep g tt tk tv vs σ D) :=
  turns w Pv h0 (hG _ _) (hs _ _ _ _) (hd _)

/-! ### the block of a comprehension while its iterator turns -/
/-- in the block Y the next turn of the iterator is the i-th, the heap is H -/
structure Stand (Y : Cx) (tn : Nat → Heap → Prop) (fp : List Addr) (σ : L2.St) (i : Nat) (H : Hp) (s : Shared) : Prop where
  inv : Inv Y [] σ H s
  turn : tn i s.heap
  own : ∀ b ∈ fp, H b = none
section
variable {X : Cx} {s0 : Shared} {H0 H : Hp} {scope : Scope} {ce : Env} {fp : List Addr} {tn : Nat → Heap → Prop} {σ : L2.St} {i : Nat} {s : Shared} {tg : Expr} {J : It} {it : Addr}
theorem Stand.may (st : Stand (X.blk s0 H0 scope ce fp) tn fp σ i H s) (b : Addr) (hb : b ∈ fp) : FpOk (X.blk s0 H0 scope ce fp) [] H b :=
  have ⟨one, two⟩ := st.inv.ok.exf b hb
  ⟨st.own b hb, one, st.inv.ok.exfs b hb, .inl hb, two, fun p hp => by simp at hp⟩
/-- a turn is over: what was pinned during it is as it was, the block's own names are forgotten -/
theorem Stand.over {P : Program} {w : World} {K : PySem.W.Frag} {Y : Cx} {s1 s' : Shared} {σ' : L2.St} {vs : List Nat} {H' : Hp} (T : Turn P w K tg J fp it tn) (turn : tn i s1.heap) (clean : wipe σ' vs = σ)
    (I : Inv Y ([] ++ pinsAt fp s1.heap) σ' H' s') : Stand Y tn fp σ i H' s' :=
  have pin : ∀ {b o}, b ∈ fp → s1.heap.get? b = some o → s'.heap.get? b = some o ∧ H' b = none := fun {b o} hb at_ =>
    have z := I.pin (b, o) (List.mem_append_right _ (List.mem_append_right _ (mem_pinsAt hb at_)))
    ⟨z.1, z.2.1⟩
  { inv := (I.unpinned (pins := [])).weak (by rw [← clean, wipe_length]) fun j v e => (wipe_some (clean ▸ e)).1
    turn := T.keep _ _ _ turn fun b hb o at_ => (pin hb at_).1
    own := fun b hb => have ⟨_, at_, _⟩ := T.obj _ _ turn b hb; (pin hb at_).2 }
/-- what a turn asks: the text that comes is put into the set at D -/
abbrev scxStep (P : Program) (w : World) (g : TG) (tt : TT) (te : TE) (vs : List Nat) (σ : L2.St) (D : Addr) : (Hp → Prop) → V → Hp → Prop := fun Nx x H' => g x (wipe σ vs) H' fun σ2 H2 => wipe σ2 vs = wipe σ vs ∧ tt σ2 H2 fun b H3 =>
  if b = true then te σ2 H3 fun y H4 => ∃ (k : Str) (l : List Str), y = .str k ∧ H4 D = some (TxO P w D l) ∧ l.length + 1 < scanBound ∧ Nx (upd H4 D (TxO P w D (insT l k))) else Nx H3
theorem scx_loop {elt iter : Expr} {ifs : List Expr} {pos : Pos} {vs : List Nat} {g : TG} {tt : TT} {te : TE} {D : Addr} {R : Result → Shared → Prop} {Fin : Hp → Prop} (calm : X.calm = true) (T : Turn X.prog X.w X.K tg J fp it tn)
    (pg : PG (X.blk s0 H0 scope ce fp) tg g) (pt : PTs (X.blk s0 H0 scope ce fp) ifs tt) (pe : PE (X.blk s0 H0 scope ce fp) elt te) (st : Stand (X.blk s0 H0 scope ce fp) tn fp (wipe σ vs) 0 H s)
    (turns_ : Turns J H Fin (scxStep X.prog X.w g tt te vs σ D)) (fin : ∀ H' s', Inv (X.blk s0 H0 scope ce fp) [] (wipe σ vs) H' s' → Fin H' → R (.ok .next) s') :
    codeAny (model X.prog X.w) X.A (.compLoop (.SetComp elt [⟨tg, iter, ifs, 0⟩] scope pos) 0 (.ref it) (.ref D) ce) R s := by
  obtain ⟨W, ⟨m0, w0⟩, go_⟩ := turns_
  refine PpSet.compLoopS_any (fun n s' => ∃ i H', Stand (X.blk s0 H0 scope ce fp) tn fp (wipe σ vs) i H' s' ∧ W i n H') (fun n s5 ⟨i, H5, st5, w5⟩ => ?_) m0 ⟨0, H, st, w0⟩
  match go_ i n H5 w5 with
  | .inl ⟨stop, over⟩ => exact thnF (T.done (X.blk s0 H0 scope ce fp) rfl rfl rfl calm i [] s5 _ H5 (fun _ _ => False) st5.inv st5.may st5.turn stop) fun r s6 ⟨e, I6⟩ => by subst e; exact fin H5 s6 I6 over
  | .inr ⟨go, Nx, next, step⟩ =>
    refine thnF (T.item (X.blk s0 H0 scope ce fp) rfl rfl rfl calm i [] s5 _ H5 (fun _ _ => False) st5.inv st5.may st5.turn go) fun r s6 ⟨u, e, came⟩ => ?_
    subst e
    refine thnF came fun _ s7 ⟨x, H7, I7, rel, yld, turn7, own7⟩ => ?_
    have at7 : Stand (X.blk s0 H0 scope ce fp) tn fp (wipe σ vs) (i + 1) H7 s7 := ⟨I7, turn7, own7⟩
    refine thnF (pg.run _ s7 _ H7 x u _ (I7.pinned at7.may (T.obj _ _ turn7)) rel (step x H7 yld)) fun _ s8 ⟨σ8, H8, I8, clean, q8⟩ => ?_
    have back : ∀ {H' s'}, Inv (X.blk s0 H0 scope ce fp) ([] ++ pinsAt fp s7.heap) σ8 H' s' → Nx H' → ∃ m, m < n ∧ ∃ i H', Stand (X.blk s0 H0 scope ce fp) tn fp (wipe σ vs) i H' s' ∧ W i m H' := fun I' nx =>
      have ⟨m, less, w'⟩ := next _ nx
      ⟨m, less, i + 1, _, Stand.over T turn7 clean I', w'⟩
    refine thnF (pt.run _ s8 σ8 H8 _ I8 q8) fun yes s9 ⟨H9, I9, q9⟩ => ?_
    match yes, q9 with
    | false, q9 => exact back I9 q9
    | true, q9 => exact thnF (pe.run _ s9 σ8 H9 _ I9 q9) fun v s10 ⟨y, H10, I10, ry, k, l, ey, at_, room, nx⟩ => by subst ey; exact tx_add (X := X.blk s0 H0 scope ce fp) I10 at_ room ry fun s' I' => back I' nx
/-- {elt for target in iter if ..}, elt a text: D is the new set -/
def tScx (P : Program) (w : World) (wi : TI) (g : TG) (tt : TT) (te : TE) (vs : List Nat) : TE := fun σ H Q => wi σ H fun J H1 => ∀ D, H1 D = none → Turns J (upd H1 D (TxO P w D [])) (Q (.ref D)) (scxStep P w g tt te vs σ D)
theorem pe_scx {elt iter : Expr} {ifs : List Expr} {own : List (Str × Nat)} {pos : Pos} {wi : TI} {g : TG} {tt : TT} {te : TE} (calm : X.calm = true) (nd : X.N.Nodup) (hi : PI X tg iter wi) (ok : BlkOk X.N X.env.scope scope own)
    (hg : ∀ (s : Shared) (H : Hp) (C : Addr) (cl : List (Str × Addr)) (fp : List Addr), PG (X.blk s H scope (compEnvC scope cl C X.env) fp) tg g) (ht : ∀ (s : Shared) (H : Hp) (C : Addr) (cl : List (Str × Addr)) (fp : List Addr), PTs (X.blk s H scope (compEnvC scope cl C X.env) fp) ifs tt) (he : ∀ (s : Shared) (H : Hp) (C : Addr) (cl : List (Str × Addr)) (fp : List Addr), PE (X.blk s H scope (compEnvC scope cl C X.env) fp) elt te) (plain : ∀ x, foldedSetIterable iter X.env x = pure x := by intro _; rfl) :
    PE X (.SetComp elt [⟨tg, iter, ifs, 0⟩] scope pos) (tScx X.prog X.w wi g tt te (own.map (·.2))) := by
  refine ⟨fun pins s σ H Q I want => ?_⟩
  have cells : ∀ y ∈ scope.names, y.2 = .free → ∃ c, X.env.cells.lookup y.1 = some c := fun y hy e => I.ok.has _ (ok.free y hy e)
  rw [PpSet.eval_SetComp]
  refine wpAny_comprehension_free (use := none) rfl plain (closure_ok cells) ok.kind (fun y hy e => (ok.uniq y hy).trans (congrArg some e)) (thn (hi.run pins s σ H _ I want) fun _ s1 came => thn came fun itv s2 ⟨it, fp, tn, J, H2, eit, I2, T, turn2, may2, turns_⟩ => ?_)
  subst eit
  refine PpSet.newSet_ok (newEnv_comp ?_)
  -- the new set, tracked
  have free2 : H2 s2.heap.objs.size = none := I2.hok.fresh (Nat.le_refl _)
  have told := turns_ _ free2
  have keep3 : ∀ b o, s2.heap.get? b = some o → (s2.heap.push (freshO X.w)).get? b = some o := fun b o old => Heap.get?_push_of_some _ old
  have I3 : Inv X pins σ (upd H2 s2.heap.objs.size (TxO X.prog X.w s2.heap.objs.size [])) { s2 with heap := s2.heap.push (freshO X.w) } := I2.laid (t' := s2.toks) keep3 (Nat.le_refl _) (TxAt.fresh (Heap.get?_push_size _ rfl)).ok
  have below : ∀ b ∈ fp, b < s2.heap.objs.size := fun b hb => have ⟨_, at_, _⟩ := T.obj _ _ turn2 b hb; Heap.lt_size at_
  have may3 : ∀ b ∈ fp, FpOk X pins (upd H2 s2.heap.objs.size (TxO X.prog X.w s2.heap.objs.size [])) b ∧ b < (s2.heap.push (freshO X.w)).objs.size := fun b hb =>
    ⟨⟨by rw [upd_ne (Nat.ne_of_lt (below b hb))]; exact (may2 b hb).1, (may2 b hb).2⟩, by rw [Heap.size_push]; exact Nat.lt_succ_of_lt (below b hb)⟩
  generalize e3 : ({ s2 with heap := s2.heap.push (freshO X.w) } : Shared) = s3 at I3 ⊢
  have h3 : s3.heap = s2.heap.push (freshO X.w) := by rw [← e3]
  rw [← h3] at may3 keep3
  generalize upd H2 s2.heap.objs.size (TxO X.prog X.w s2.heap.objs.size []) = H3 at told I3 may3
  generalize s2.heap.objs.size = D at told ⊢
  show codeAny _ _ (.compStart (.SetComp elt [⟨tg, iter, ifs, 0⟩] scope pos) 0 (.ref it) (.ref D) (compEnvC scope (cellsFrom (s3.heap.objs.size + 1) scope.names (cloFrom X.env.cells scope.names [])) s3.heap.objs.size X.env)) (compPost (model X.prog X.w) X.A X.xe none (EP X pins σ Q) (.ref D) s3.heap.objs.size) { s3 with heap := pushCells (s3.heap.push { cls := .type "dict", data := .dict #[] }) scope.names }
  -- the block
  have I4 := block_start I3 ok nd may3
  have G := hg s3 H3 s3.heap.objs.size (cellsFrom (s3.heap.objs.size + 1) scope.names (cloFrom X.env.cells scope.names [])) fp
  have Ts := ht s3 H3 s3.heap.objs.size (cellsFrom (s3.heap.objs.size + 1) scope.names (cloFrom X.env.cells scope.names [])) fp
  have Es := he s3 H3 s3.heap.objs.size (cellsFrom (s3.heap.objs.size + 1) scope.names (cloFrom X.env.cells scope.names [])) fp
  have locals_ : (compEnvC scope (cellsFrom (s3.heap.objs.size + 1) scope.names (cloFrom X.env.cells scope.names [])) s3.heap.objs.size X.env).locals = s3.heap.objs.size := rfl
  generalize compEnvC scope (cellsFrom (s3.heap.objs.size + 1) scope.names (cloFrom X.env.cells scope.names [])) s3.heap.objs.size X.env = ce at I4 G Ts Es locals_ ⊢
  generalize e4 : ({ s3 with heap := pushCells (s3.heap.push { cls := .type "dict", data := .dict #[] }) scope.names } : Shared) = s4 at I4 ⊢
  have turn4 : tn 0 s4.heap := T.keep _ _ _ turn2 fun b _ o old => by rw [← e4]; exact pushCells_keeps _ _ _ _ (Heap.get?_push_of_some _ (keep3 b o old))
  have loop := scx_loop (elt := elt) (iter := iter) (pos := pos) (R := compPost (model X.prog X.w) X.A X.xe none (EP X pins σ Q) (.ref D) s3.heap.objs.size) calm T G Ts Es ⟨I4, turn4, fun b hb => (may3 b hb).1.1⟩ told fun H' s' I' q => by
    have ⟨m, ns, _⟩ := I'.loc
    have free' : H' s3.heap.objs.size = none := locals_ ▸ I'.free
    have ⟨f0, f1, _, f3, f4, f5⟩ := I3.fpOk (H' := H') (Nat.le_refl _) free'
    have I6 : Inv X pins σ H' s' := I3.call' (ch := fp) I'.os I'.base I'.hok I'.bare fun b hb => have ⟨_, z1, _, z3, z4, z5⟩ := (may3 b hb).1; ⟨z3, z1, z4, z5⟩
    exact ⟨m, locals_ ▸ ns, fun h' sb => ⟨.ref D, H', I6.turned (t' := s'.toks) (fun b o nb old => (sb.2 b nb).trans old) f0 f1 f3 f4 f5, rfl, q⟩⟩
  exact PpSet.codeAny_compStart_set loop (T.self X.A 0 s4 _ _ turn4 loop)
end
/-- over a walk -/
theorem scx_it {P : Program} {w' : World} {J : It} {n : Nat} {G : Hp → Prop} {Y : Nat → Hp → V → Hp → Prop} (w : Walk J n G Y) {g : TG} {tt : TT} {te : TE} {vs : List Nat} {σ : L2.St} {H1 : Hp} {D : Addr} {Qd : Hp → Prop} (Pv : Nat → Hp → Prop) (h0 : Pv 0 (upd H1 D (TxO P w' D []))) (hG : ∀ i H, i ≤ n → Pv i H → G H)
    (hs : ∀ i x H H', i < n → Pv i H → Y i H x H' → scxStep P w' g tt te vs σ D (Pv (i + 1)) x H') (hd : ∀ H, Pv n H → Qd H) : Turns J (upd H1 D (TxO P w' D [])) Qd (scxStep P w' g tt te vs σ D) :=
  turns w Pv h0 (hG _ _) (hs _ _ _ _) (hd _)

/-! ### set(a list of texts) -/
def putAll (l : List Str) (xs : List Str) : List Str := xs.foldl insT l
theorem putAll_snoc (l xs : List Str) (k : Str) : putAll l (xs ++ [k]) = insT (putAll l xs) k := by unfold putAll; rw [List.foldl_append]; rfl
theorem putAll_len : ∀ (xs l : List Str), (putAll l xs).length ≤ l.length + xs.length
  | [], l => Nat.le_refl _
  | x :: xs, l => by
    have a := putAll_len xs (insT l x)
    have b := insT_len l x
    show (putAll (insT l x) xs).length ≤ _
    rw [List.length_cons]; omega
theorem putAll_mem : ∀ {xs l : List Str} {x : Str}, x ∈ putAll l xs ↔ x ∈ l ∨ x ∈ xs
  | [], l, x => by simp [putAll]
  | y :: xs, l, x => by
    show x ∈ putAll (insT l y) xs ↔ _
    rw [putAll_mem, insT_mem, List.mem_cons, or_assoc]
theorem putAll_once : ∀ {xs l : List Str}, l.Nodup → (putAll l xs).Nodup
  | [], _, h => h
  | y :: xs, l, h => show (putAll (insT l y) xs).Nodup from putAll_once (insT_once h)
section
variable {P : Program} {w : World} {A : Around} {E : Value → Shared → Prop} {s : Shared}
theorem update_once {S I : Addr} {R : Result → Shared → Prop} (h : wpAny (model P w) A.in1 (Builtin.«set.update.loop» ⟨[.ref S, .ref I], []⟩) (fun fin s' => match fin with | .done fl => R (.ok fl) s' | .again c => c.quiet = true ∧ codeAny (model P w) A c R s') (fun x s' => R (.error x) s') s) : codeAny (model P w) A (.builtin "set.update.loop" ⟨[.ref S, .ref I], []⟩) R s :=
  codeAny_builtin PyProof.Rows.F.entry_set_update_loop (by rw [Around.under_plainId PyProof.Rows.F.plain_set_update_loop _]; exact h)
/-- the loop that puts what an iterator has left into the set at S -/
theorem tx_update {I S : Addr} {fp wr : List Addr} {G : Array GenState → Array GenState → Prop} {n : Nat} {Pv : Nat → Value → Prop} {St : Nat → Shared → Prop} {R : Result → Shared → Prop} {xs : List Str} (W : WalksS P w A.in1 I fp wr G n Pv St) (apart_ : S ∉ fp)
    (is_ : ∀ i v, Pv i v → ∃ k t, xs[i]? = some k ∧ v = .str k t) (len : xs.length = n) (few : n + 1 < scanBound) : ∀ (rest done : List Str) (s : Shared), done ++ rest = xs → St done.length s → TxAt P w s.heap S (putAll [] done) →
      (∀ s', Moved (S :: wr) G s s' → TxAt P w s'.heap S (putAll [] xs) → R (.ok (.ret .none)) s') → codeAny (model P w) A (.builtin "set.update.loop" ⟨[.ref S, .ref I], []⟩) R s
  | [], done, s, all, st, R0, q => by
    rw [List.append_nil] at all; subst all; subst len
    exact update_once (wpAny_bind (W.done s _ _ st fun s' mv => wpAny_pure (q s' (mv.mono fun b hb => List.mem_cons_of_mem _ hb) (R0.moves fun o at_ => mv.heap S o (fun z => apart_ (W.sub _ z)) at_))))
  | x :: rest, done, s, all, st, R0, q => by
    have lt : done.length < n := by rw [← len, ← all, List.length_append, List.length_cons]; omega
    refine update_once (wpAny_bind (W.item done.length s _ _ lt st fun v s' pv st' mv => ?_))
    obtain ⟨k, t, ek, rfl⟩ := is_ _ _ pv
    have ex : k = x := by rw [← all, List.getElem?_append_right (Nat.le_refl _), Nat.sub_self] at ek; exact (Option.some.inj ek).symm
    subst ex
    have R1 : TxAt P w s'.heap S (putAll [] done) := R0.moves fun o at_ => mv.heap S o (fun z => apart_ (W.sub _ z)) at_
    have short : (putAll [] done).length + 1 < scanBound := by have := putAll_len done []; simp only [List.length_nil] at this; omega
    show wpAny _ A.in1 (holding [Value.str k t] (setAdd S (.str k t)) >>= _) _ _ s'
    refine wpAny_bind (wpAny_holding (wpAny_holding (wpAny_bind ((PySem.strKind P w).pyHash (k := k) (PySem.Froz.is_str k t) (TxAt.put (s := { s' with toks := s'.toks + 1 }) R1 short fun b h' sb R2 => wpAny_pure ⟨plainId_quiet PyProof.Rows.F.plain_set_update_loop _, ?_⟩)))))
    refine tx_update W apart_ is_ len few rest (done ++ [k]) _ (by rw [List.append_assoc]; exact all) (by rw [List.length_append]; exact W.frame _ s' _ _ st' (Nat.le_succ _) fun b hb o at_ => by rw [sb.2 b fun z => apart_ (z ▸ hb)]; exact at_) (by rw [putAll_snoc]; exact R2) fun s'' mv' R3 => q s'' (Moved.trans W.gtrans ((mv.mono fun b hb => List.mem_cons_of_mem _ hb).then_heap (Nat.le_succ _) fun b o nb at_ => by rw [sb.2 b fun z => nb (z ▸ List.mem_cons_self)]; exact at_) mv') R3
set_option maxHeartbeats 3200000 in
/-- set(v): the new set, then its __init__ -/
theorem made_set {v : Value} {Q : Value → Shared → Prop} (init : ∀ A' : Around, A'.handled = A.handled → codeAny (model P w) A' (.call (.builtin "set.__init__") ⟨[.ref s.heap.objs.size, v], []⟩) (wants (fun r s' => r = .none ∧ Q (.ref s.heap.objs.size) s') E) { s with heap := s.heap.push (freshO w) }) :
    wpAny (model P w) A (call (.type "set") [v]) Q E s := by
  have ⟨_, _, mro_⟩ := F.called_set.mro
  have a1 := F.called_set.made
  have a2 := F.called_set.sub
  have a3 := F.called_set.notType
  have a4 := F.called_set.canCreate
  have a5 := F.typeCall_set_1 v
  refine wpAny_call (codeAny_of_tree (show wpAny _ _ (callAny (.type "set") _) _ _ _ from wpAny_pure ⟨Code.quiet_builtin _ (by decide +kernel), codeAny_builtin F.entry_type_call ?_⟩))
  rw [Around.under_plain (weight_type_call_type "set" [v] []) rfl]
  repeat any_goals first | assumption | wp_step
  refine codeAny_mono (code_set_led1 v (E := E) (Q₁ := fun o s1 => o = .ref s.heap.objs.size ∧ s1 = { s with heap := s.heap.push (freshO w) }) ⟨rfl, rfl⟩) fun r s1 hr => ?_
  match r, hr with
  | .error x, hr => exact hr
  | .ok (.ret o), ⟨eo, es⟩ =>
    subst eo; subst es
    have b1 : Shared.TypeIs { s with heap := s.heap.push (freshO w) } (.ref s.heap.objs.size) "set" := ⟨_, Heap.get?_push_size _ rfl, rfl⟩
    have b2 := F.called_set.init.lookup
    have b3 := F.called_set.init.bind (.ref s.heap.objs.size)
    repeat any_goals first | assumption | wp_step
    refine codeAny_mono (init _ (by simp)) fun r2 s2 hr2 => ?_
    match r2, hr2 with
    | .error x, hr2 => exact hr2
    | .ok (.ret o), ⟨eo, q⟩ =>
      subst eo
      repeat any_goals first | assumption | wp_step
set_option maxHeartbeats 3200000 in
theorem init_texts {S l : Addr} {items : Array Value} {xs : List Str} {R : Shared → Prop} (calm : A.handled = none) (new : s.heap.get? S = some (freshO w)) (ne : S ≠ l) (at_ : s.heap.IsList l items) (are : StrsAre items.toList xs) (few : xs.length + 1 < scanBound)
    (q : ∀ h' t, (∀ b o, b ≠ S → s.heap.get? b = some o → h'.get? b = some o) → TxAt P w h' S (putAll [] xs) → R { s with heap := h', toks := t }) :
    codeAny (model P w) A (.call (.builtin "set.__init__") ⟨[.ref S, .ref l], []⟩) (wants (fun r s' => r = .none ∧ R s') E) s := by
  have ty : s.TypeIs (.ref S) "set" := ⟨_, new, rfl⟩
  have len : items.size = xs.length := by have := are.length; rwa [Array.length_toList] at this
  refine codeAny_call_builtin (R := wants (fun r s' => r = .none ∧ R s') E) F.called_set.init.plain F.entry_set_init (check_set_init_1 ty ?_)
  have ⟨ol, ho, hc, n, hd⟩ := id at_
  obtain ⟨cl_, dict_, data_, slots_⟩ := ol
  dsimp only at hc hd
  subst hc hd
  have c1 := F.sub_list_set
  have c2 := F.sub_list_frozenset
  have c3 : (Value.type "list" == Value.type "dict") = false := by decide
  delta Builtin.«set.__init__» noKeywords Builtin.Frozenset.updateFrom
  generalize hold : pyIter = it_
  wp_walk
  subst hold
  have lt1 : l < s.heap.objs.size := Heap.lt_size ho
  have lt2 : S < s.heap.objs.size := Heap.lt_size new
  refine wpAny_pyIter_list at_ (wpAny_bind (wpAny_runValue (tx_update (xs := xs) ((Walks.list (A := A.in1.in1) (by simp [calm]) s.heap.objs.size l (Nat.ne_of_lt lt1) items).toS) (S := S) ?_ ?_ len.symm (by rw [len]; exact few) xs [] _ rfl ⟨⟨_, Heap.get?_push_size _ rfl, rfl, rfl⟩, at_.push _⟩ (TxAt.fresh (Heap.get?_push_of_some _ new)) ?_)))
  · simp only [List.mem_cons, List.not_mem_nil, or_false, not_or]; exact ⟨Nat.ne_of_lt lt2, ne⟩
  · intro i v hv0
    have hv : items.toList[i]? = some v := by rw [Array.getElem?_toList]; exact hv0
    clear q few len new at_ ho hv0
    generalize items.toList = vs at are hv
    induction are generalizing i with
    | nil => simp at hv
    | cons y t _ more =>
      match i, hv with
      | 0, hv => exact ⟨y, t, rfl, (Option.some.inj hv).symm⟩
      | i + 1, hv => exact more i hv
  · intro s' mv R1
    obtain ⟨h', gen', drawn', t', os'⟩ := s'
    obtain rfl : gen' = s.gens := mv.gens
    obtain rfl : drawn' = s.drawn := mv.drawn
    obtain rfl : os' = s.os := mv.os
    refine wpAny_pure (wpAny_pure ⟨rfl, q h' t' (fun b o nb old => mv.heap b o ?_ (Heap.get?_push_of_some _ old)) R1⟩)
    simp only [List.mem_cons, List.not_mem_nil, or_false, not_or]
    exact ⟨nb, Nat.ne_of_lt (Heap.lt_size old)⟩
end
/-- set(xs), xs a list of texts -/
def rSetTx (K : PySem.W.Frag) (P : Program) (w : World) : List V → Hp → VK → Prop := fun vs H Q => ∃ (a : Addr) (xs : List Str), vs = [.ref a] ∧ SqL K H a (xs.map V.str) ∧ xs.length + 1 < scanBound ∧ ∀ p, H p = none → Q (.ref p) (upd H p (TxO P w p (putAll [] xs)))
theorem cr_setTx {X : Cx} (calm : X.calm = true) : CallR X (.type "set") (rSetTx X.K X.prog X.w) := fun pins s σ H vs us Q I rel ⟨a, xs, e, at_, few, q⟩ => by
  subst e
  rw [Vals.ref1 rel]
  have ⟨its, vals, is_, _⟩ := I.list at_
  have list_ := is_.isList
  refine made_set fun A' same => ?_
  have lt : a < s.heap.objs.size := have ⟨_, h, _⟩ := list_; Heap.lt_size h
  refine init_texts (items := its.toArray) (xs := xs) (same.trans (I.ok.hd calm)) (Heap.get?_push_size _ rfl) (Nat.ne_of_gt lt) (list_.push _) (by simpa using vals.strs) few fun h' t keep R => ?_
  have keep' : ∀ b o, s.heap.get? b = some o → h'.get? b = some o := fun b o old => keep b o (Nat.ne_of_lt (Heap.lt_size old)) (Heap.get?_push_of_some _ old)
  exact ⟨.ref _, upd H s.heap.objs.size (TxO X.prog X.w s.heap.objs.size (putAll [] xs)), I.laid keep' (Nat.le_refl _) R.ok, rfl, q _ (I.hok.fresh (Nat.le_refl _))⟩

/-! ### what requirements for one name come to -/
abbrev Bd := Verb × List Str
def anyV (v : Verb) (rs : List Row) : Bool := rs.any fun r => decide (r.vb = v)
def valsOf (v : Verb) (rs : List Row) : List Str := (rs.filter fun r => decide (r.vb = v)).map (·.vl)
def sortU (xs : List Str) : List Str := srt (putAll [] xs)
def boundOf (rs : List Row) : Option Bd :=
  if anyV .missing rs = true then (if (!(sortU (valsOf .is rs)).isEmpty || anyV .there rs) = true then none else some (.missing, []))
  else if (sortU (valsOf .is rs)).isEmpty = false then (if (decide (1 < (sortU (valsOf .is rs)).length) || decide ((sortU (valsOf .is rs)).headD "" ∈ sortU (valsOf .not rs))) = true then none else some (.is, sortU (valsOf .is rs)))
  else some (if anyV .there rs = true then .there else .not, sortU (valsOf .not rs))
def BdAt (H : Hp) (p : Addr) (b : Bd) : Prop := ∃ q, H p = some (.tup [.str (vT b.1), .ref q]) ∧ H q = some (.lst (b.2.map V.str))
theorem sortU_len (xs : List Str) : (sortU xs).length ≤ xs.length := by
  unfold sortU
  rw [(srt_perm _).length_eq]
  have := putAll_len xs []
  simpa using this
theorem sortU_mem {xs : List Str} {x : Str} : x ∈ sortU xs ↔ x ∈ xs := by
  unfold sortU
  rw [(srt_perm _).mem_iff, putAll_mem]; simp
theorem sortU_once (xs : List Str) : (sortU xs).Nodup := (srt_perm _).nodup_iff.mpr (putAll_once .nil)
theorem valsOf_len (v : Verb) (rs : List Row) : (valsOf v rs).length ≤ rs.length := by
  unfold valsOf; rw [List.length_map]; exact List.length_filter_le _ _
theorem vT_inj {a b : Verb} (h : vT a = vT b) : a = b := by cases a <;> cases b <;> first | rfl | exact absurd h (by decide +kernel)
theorem flat_strs {α : Type} (f : α → Str) (l : List α) : (l.map fun x => V.str (f x)).all flatV = true := by
  rw [List.all_map, List.all_eq_true]; exact fun _ _ => rfl
theorem in_strs {α : Type} (f : α → Str) (l : List α) (z : Str) : inV (.str z) (l.map fun x => V.str (f x)) = l.any fun x => decide (f x = z) := by
  unfold inV
  rw [List.any_map]
  congr 1
theorem in_words (v : Verb) (rs : List Row) : inV (.str (vT v)) (rs.map fun r => V.str (vT r.vb)) = anyV v rs := by
  rw [in_strs]
  unfold anyV
  congr 1
  funext r
  exact decide_eq_decide.mpr ⟨vT_inj, fun e => by rw [e]⟩
theorem in_list (z : Str) (l : List Str) : inV (.str z) (l.map V.str) = decide (z ∈ l) := by
  have e : inV (.str z) (l.map V.str) = l.any fun x => decide (x = z) := in_strs id l z
  rw [e]
  clear e
  induction l with
  | nil => rfl
  | cons y l more =>
    rw [List.any_cons, more]
    simp only [List.mem_cons, eq_comm (a := z) (b := y), Bool.decide_or]
theorem valsOf_snoc (v : Verb) (rs : List Row) (r : Row) : valsOf v (rs ++ [r]) = valsOf v rs ++ (if r.vb = v then [r.vl] else []) := by
  unfold valsOf
  rw [List.filter_append, List.map_append]
  congr 1
  by_cases e : r.vb = v <;> simp [e]
theorem iteE {c b : Bool} {A B : Prop} (e : c = b) (h1 : b = true → A) (h2 : b = false → B) : if c = true then A else B := by
  subst e; cases c with
  | true => exact h1 rfl
  | false => exact (if_neg Bool.false_ne_true).symm ▸ h2 rfl
/-- sorted({value for name, word, value in rows if word == ..}) -/
theorem sorted_vals {P : Program} {w : World} {K : PySem.W.Frag} {H : Hp} {L : Addr} {rs : List Row} {Q : VK} {x1 x2 x3 x4 x5 x6 : Option V} (v : Verb) (hR : RowsAt H L rs) (few : rs.length ≤ 30)
    (k : ∀ p H', Same H H' → H' p = some (.lst ((sortU (valsOf v rs)).map V.str)) → Q (.ref p) H') :
    tCB (rSortTx P w) (tCons (tScx P w (iList K (tVar 0)) (gTup K 3 (gCons (gName 4) (gCons (gName 5) (gCons (gName 6) gNil)))) (tTest (tOp rEq (tVar 5) (tC (.str (vT v))))) (tVar 6) [4, 5, 6]) tNil) [some (.ref L), x1, x2, x3, x4, x5, x6] H Q := by
  obtain ⟨ps, gL, hp⟩ := hR
  have lp := paired_len hp
  have many : ∀ i, (valsOf v (rs.take i)).length + 1 < scanBound := fun i => by
    have := valsOf_len v (rs.take i)
    rw [List.length_take] at this
    unfold scanBound; omega
  refine ⟨_, rfl, L, rfl, ⟨_, SqL.of gL⟩, fun D hD => ?_⟩
  refine scx_it (walk_list (xs := ps.map V.ref)) (fun i H' => Same H H' ∧ H' D = some (TxO P w D (putAll [] (valsOf v (rs.take i))))) ⟨Same.new hD, upd_same⟩ (fun i H' _ p => SqL.of (p.1 _ _ gL)) ?_ ?_
  · rintro i x H1 _ hi ⟨S1, gD⟩ ⟨rfl, hx⟩
    rw [List.getElem?_map] at hx
    obtain ⟨p, ep, rfl⟩ := Option.map_eq_some_iff.mp hx
    obtain ⟨r, er, hr1⟩ : ∃ r, rs[i]? = some r ∧ RowAt H p r := paired_at hp ep
    refine ⟨p, _, rfl, SqT.of (S1 _ _ hr1), rfl, _, _, rfl, _, _, rfl, _, _, rfl, rfl, rfl, ?_⟩
    refine ⟨_, rfl, rfl, _, rfl, ?_⟩
    rw [get_take er, valsOf_snoc]
    by_cases e : r.vb = v
    · rw [decide_eq_true (show V.str (vT r.vb) = V.str (vT v) by rw [e])]
      refine iteT ⟨_, rfl, r.vl, _, rfl, gD, ?_, fun b o hb => ?_, ?_⟩
      · have a := putAll_len (valsOf v (rs.take i)) []
        have b := many i
        simp only [List.length_nil] at a
        omega
      · rw [upd_ne (ne_of_none hb hD)]; exact S1 b o hb
      · rw [upd_same, if_pos e, putAll_snoc]
    · rw [decide_eq_false (show ¬ V.str (vT r.vb) = V.str (vT v) from fun z => e (vT_inj (by injection z))), if_neg e, List.append_nil]
      exact iteF ⟨S1, gD⟩
  · rintro H1 ⟨S1, gD⟩
    rw [List.length_map, lp, List.take_length] at gD
    have a := putAll_len (valsOf v rs) []
    have b := valsOf_len v rs
    simp only [List.length_nil] at a
    exact ⟨D, _, rfl, gD, by omega, fun p hp => k p _ (S1.trans (Same.new hp)) upd_same⟩
def sp_bound_of (K : PySem.W.Frag) : Sp := fun vs H Q _ => ∃ (L : Addr) (rs : List Row), vs = [.ref L] ∧ RowsAt H L rs ∧ rs.length ≤ 30 ∧ (boundOf rs = none → ∀ H', Same H H' → Q .non H') ∧
  ∀ (b : Bd) (p : Addr) (H' : Hp), boundOf rs = some b → Same H H' → BdAt H' p b → Q (.ref p) H'
theorem ok_bound_of {P : Program} {w : World} {K : PySem.W.Frag} {mg : Str → Option Value} {base : Heap} {fd : FuncData} (T : Txt K mg w) (F : FnP K "bound_of" s_bound_of [] fd) : FnOk P w K mg base CX0 1 (He.ga K "bound_of") fd ps_bound_of (sp_bound_of K) := by
  refine F.ok sc_bound_of (fun vs H Q E h => ?len) (fun cdv A outer s H vs Q E hr h => ?body)
  case len => obtain ⟨L, rs, rfl, ⟨ps, gL, hp⟩, hlen, k0, k1⟩ := h; rfl
  case body =>
  obtain ⟨L, rs, rfl, ⟨ps, gL, hp⟩, hlen, k0, k1⟩ := h
  have hu := hu_of hr
  refine ⟨_, PSs.nox (pss_cons (ps_setLc (i := 1) (own := [("name", 4), ("word", 5), ("value", 6)]) (g := gTup K 3 (gCons (gName 4) (gCons (gName 5) (gCons (gName 6) gNil)))) rfl sc_bound_of.nd rfl rfl (sw_true rfl rfl rfl (by decide +kernel)) (pi_list (pv 0)) (blkOk_by (own := [("name", 4), ("word", 5), ("value", 6)]) (N := N_bound_of) (sc := defScope s_bound_of) (by decide +kernel)) (fun _ _ _ _ _ => (pg_tup rfl (pgs_cons (pg_name (i := 4) sc_bound_of.nd rfl (Or.inl rfl) (Or.inr rfl)) (pgs_cons (pg_name (i := 5) sc_bound_of.nd rfl (Or.inl rfl) (Or.inr rfl)) (pgs_cons (pg_name (i := 6) sc_bound_of.nd rfl (Or.inl rfl) (Or.inr rfl)) pgs_nil))))) (fun _ _ _ _ _ => pts_nil) (fun _ _ _ _ _ => (pv 5)))
    (pss_cons (ps_set (i := 2) sc_bound_of.nd rfl (Or.inl rfl) (pe_callB (cr_sortTx rfl) (by rfl) T.n_sorted (by decide +kernel) (pa_cons (pe_scx (own := [("name", 4), ("word", 5), ("value", 6)]) (g := gTup K 3 (gCons (gName 4) (gCons (gName 5) (gCons (gName 6) gNil)))) rfl sc_bound_of.nd (pi_list (pv 0)) (blkOk_by (own := [("name", 4), ("word", 5), ("value", 6)]) (N := N_bound_of) (sc := defScope s_bound_of) (by decide +kernel)) (fun _ _ _ _ _ => (pg_tup rfl (pgs_cons (pg_name (i := 4) sc_bound_of.nd rfl (Or.inl rfl) (Or.inr rfl)) (pgs_cons (pg_name (i := 5) sc_bound_of.nd rfl (Or.inl rfl) (Or.inr rfl)) (pgs_cons (pg_name (i := 6) sc_bound_of.nd rfl (Or.inl rfl) (Or.inr rfl)) pgs_nil))))) (fun _ _ _ _ _ => (pts_one (pt_cmpR op_eq (pv 5) pe_str (nomark _)))) (fun _ _ _ _ _ => (pv 6))) pa_nil)))
    (pss_cons (ps_set (i := 3) sc_bound_of.nd rfl (Or.inl rfl) (pe_callB (cr_sortTx rfl) (by rfl) T.n_sorted (by decide +kernel) (pa_cons (pe_scx (own := [("name", 4), ("word", 5), ("value", 6)]) (g := gTup K 3 (gCons (gName 4) (gCons (gName 5) (gCons (gName 6) gNil)))) rfl sc_bound_of.nd (pi_list (pv 0)) (blkOk_by (own := [("name", 4), ("word", 5), ("value", 6)]) (N := N_bound_of) (sc := defScope s_bound_of) (by decide +kernel)) (fun _ _ _ _ _ => (pg_tup rfl (pgs_cons (pg_name (i := 4) sc_bound_of.nd rfl (Or.inl rfl) (Or.inr rfl)) (pgs_cons (pg_name (i := 5) sc_bound_of.nd rfl (Or.inl rfl) (Or.inr rfl)) (pgs_cons (pg_name (i := 6) sc_bound_of.nd rfl (Or.inl rfl) (Or.inr rfl)) pgs_nil))))) (fun _ _ _ _ _ => (pts_one (pt_cmpR op_eq (pv 5) pe_str (nomark _)))) (fun _ _ _ _ _ => (pv 6))) pa_nil)))
    (pss_cons (ps_if (pt_cmpR op_in_seq pe_str (pv 1) (by rfl)) (pss_one (ps_ret (pe_ifExp (PW.pt (pw_or (pt_truth (pv 2) (by intro _; rfl)) (pw_or1 (pt_cmpR op_in_seq pe_str (pv 1) (by rfl))))) pe_non (pe_tup (pa_cons pe_str (pa_cons (pe_lst pa_nil) pa_nil)))))) pss_nil)
    (pss_cons (ps_if (pt_truth (pv 2) (by intro _; rfl)) (pss_one (ps_ret (pe_ifExp (PW.pt (pw_or (pt_cmpR op_gt (pe_callB call_len_seq (by rfl) T.n_len (by decide +kernel) (pa_cons (pv 2) pa_nil)) pe_int (nomark _)) (pw_or1 (pt_cmpR op_in_seq (pe_ix ix_list (pv 2) pe_int (fun _ _ => rfl)) (pv 3) (by rfl))))) pe_non (pe_tup (pa_cons pe_str (pa_cons (pv 2) pa_nil)))))) pss_nil)
    (pss_one (ps_ret (pe_tup (pa_cons (pe_ifExp (pt_cmpR op_in_seq pe_str (pv 1) (by rfl)) pe_str pe_str) (pa_cons (pv 3) pa_nil)))))))))), ?_⟩
  have lp := paired_len hp
  refine ⟨_, rfl, L, rfl, ⟨_, SqL.of gL⟩, fun D hD => ?_⟩
  refine lc_list (K := K) (a := L) (xs := ps.map V.ref) (fun i H' => Same H H' ∧ H' D = some (.lst ((rs.take i).map fun r => V.str (vT r.vb)))) ⟨Same.new hD, upd_same⟩ (fun i H' _ p => SqL.of (p.1 _ _ gL)) ?_ ?_
  · rintro i x H1 hx ⟨S1, gD⟩
    rw [List.getElem?_map] at hx
    obtain ⟨p, ep, rfl⟩ := Option.map_eq_some_iff.mp hx
    obtain ⟨r, er, hr1⟩ : ∃ r, rs[i]? = some r ∧ RowAt H p r := paired_at hp ep
    refine ⟨p, _, rfl, SqT.of (S1 _ _ hr1), rfl, _, _, rfl, _, _, rfl, _, _, rfl, rfl, rfl, yes_ ?_⟩
    refine iteT ?_
    refine ⟨_, rfl, _, gD, small1000 (by rw [List.length_map, List.length_take]; omega), fun b o hb => ?_, ?_⟩
    · rw [upd_ne (ne_of_none hb hD)]; exact S1 b o hb
    · rw [upd_same, get_take er, List.map_append]; rfl
  rintro H1 ⟨S1, gD⟩
  rw [List.length_map, lp, List.take_length] at gD
  refine sorted_vals .is (rows_same S1 ⟨ps, gL, hp⟩) hlen fun pa H2 S2 ga => ?_
  refine sorted_vals .not (rows_same (S1.trans S2) ⟨ps, gL, hp⟩) hlen fun pe H3 S3 ge => ?_
  have gW := S3 _ _ (S2 _ _ gD)
  have gA := S3 _ _ ga
  have S13 := S1.trans (S2.trans S3)
  clear ga gD
  have la : (sortU (valsOf .is rs)).length ≤ 30 := Nat.le_trans (sortU_len _) (Nat.le_trans (valsOf_len _ _) hlen)
  refine ⟨_, rfl, D, _, rfl, .inl (SqL.of gW), rfl, flat_strs _ _, _, rfl, ?_⟩
  refine iteE (in_words .missing rs) (fun hm => ?_) (fun hm => ?_)
  · have bo : boundOf rs = if (!(sortU (valsOf .is rs)).isEmpty || anyV .there rs) = true then none else some (.missing, []) := by unfold boundOf; rw [if_pos hm]
    refine ⟨_, rfl, _, .inl ⟨_, SqL.of gA, rfl⟩, ?_⟩
    rw [List.isEmpty_map]
    cases ea : (sortU (valsOf .is rs)).isEmpty with
    | false => exact iteT (iteT (k0 (by rw [bo, ea]; rfl) H3 S13))
    | true =>
      refine iteF ⟨_, rfl, D, _, rfl, .inl (SqL.of gW), rfl, flat_strs _ _, _, rfl, ?_⟩
      refine iteE (in_words .there rs) (fun ht => ?_) (fun ht => ?_)
      · exact k0 (by rw [bo, ea, ht]; rfl) H3 S13
      · refine ⟨smallN (by show 0 ≤ 1000; decide), fun q hq => ⟨smallN (by show 2 ≤ 1000; decide), fun p hp' => ?_⟩⟩
        exact k1 (.missing, []) p _ (by rw [bo, ea, ht]; rfl) (S13.trans ((Same.new hq).trans (Same.new hp'))) ⟨q, upd_same, Same.new hp' _ _ upd_same⟩
  · have hm : ¬ anyV .missing rs = true := fun z => by rw [z] at hm; cases hm
    refine ⟨_, rfl, _, .inl ⟨_, SqL.of gA, rfl⟩, ?_⟩
    rw [List.isEmpty_map]
    cases ea : (sortU (valsOf .is rs)).isEmpty with
    | false =>
      have bo : boundOf rs = if (decide (1 < (sortU (valsOf .is rs)).length) || decide ((sortU (valsOf .is rs)).headD "" ∈ sortU (valsOf .not rs))) = true then none else some (.is, sortU (valsOf .is rs)) := by unfold boundOf; rw [if_neg hm, if_pos ea]
      obtain ⟨x, xs, ex⟩ : ∃ x xs, sortU (valsOf .is rs) = x :: xs := by
        cases e : sortU (valsOf .is rs) with
        | nil => rw [e] at ea; cases ea
        | cons x xs => exact ⟨x, xs, rfl⟩
      refine iteT ?_
      refine ⟨_, rfl, pa, _, rfl, .inl (SqL.of gA), _, _, rfl, rfl, _, rfl, ?_⟩
      refine iteE (b := decide (1 < (sortU (valsOf .is rs)).length)) (decide_eq_decide.mpr (by rw [List.length_map]; omega)) (fun h1 => ?_) (fun h1 => ?_)
      · exact iteT (k0 (by rw [bo, h1]; rfl) H3 S13)
      · have gA0 : (sortU (valsOf .is rs)).map V.str = .str x :: xs.map V.str := by rw [ex]; rfl
        refine ⟨_, rfl, pa, _, 0, .str x, rfl, rfl, SqL.of gA, (by rw [gA0]; exact atI_nat (j := 0) rfl), _, rfl, pe, _, rfl, .inl (SqL.of ge), rfl, flat_strs id _, _, rfl, ?_⟩
        refine iteE (in_list x _) (fun h2 => ?_) (fun h2 => ?_)
        · refine k0 ?_ H3 S13
          rw [bo, ex, List.headD_cons, h2, Bool.or_true]; rfl
        · refine ⟨_, rfl, smallN (by show 2 ≤ 1000; decide), fun p hp' => ?_⟩
          refine k1 (.is, sortU (valsOf .is rs)) p _ ?_ (S13.trans (Same.new hp')) ⟨pa, upd_same, Same.new hp' _ _ gA⟩
          rw [bo, h1]
          have hd : (sortU (valsOf .is rs)).headD "" = x := by rw [ex]; rfl
          rw [hd, h2]; rfl
    | true =>
      have bo : boundOf rs = some (if anyV .there rs = true then .there else .not, sortU (valsOf .not rs)) := by unfold boundOf; rw [if_neg hm, if_neg (by rw [ea]; decide)]
      refine iteF ⟨_, rfl, D, _, rfl, .inl (SqL.of gW), rfl, flat_strs _ _, _, rfl, ?_⟩
      refine iteE (in_words .there rs) (fun ht => ?_) (fun ht => ?_)
      · exact ⟨_, rfl, smallN (by show 2 ≤ 1000; decide), fun p hp' => k1 (.there, sortU (valsOf .not rs)) p _ (by rw [bo, ht]; rfl) (S13.trans (Same.new hp')) ⟨pe, upd_same, Same.new hp' _ _ ge⟩⟩
      · exact ⟨_, rfl, smallN (by show 2 ≤ 1000; decide), fun p hp' => k1 (.not, sortU (valsOf .not rs)) p _ (by rw [bo, ht]; rfl) (S13.trans (Same.new hp')) ⟨pe, upd_same, Same.new hp' _ _ ge⟩⟩

/-! ### list(text) -/
def rListS : List V → Hp → VK → Prop := fun vs H Q => ∃ z : Str, vs = [.str z] ∧ z.length ≤ 1000 ∧ ∀ p, H p = none → Q (.ref p) (upd H p (.lst ((tl z).map fun c => V.str ⟨#[c]⟩)))
theorem vals_at : ∀ {xs : List V} {us : List Value}, xs.length = us.length → (∀ (i : Nat) (u : Value) (x : V), us[i]? = some u → xs[i]? = some x → RelV x u) → Vals xs us
  | [], [], _, _ => .nil
  | x :: xs, u :: us, l, h => .cons (h 0 u x rfl rfl) (vals_at (by simpa using l) fun i u x hu hx => h (i + 1) u x (by simpa using hu) (by simpa using hx))
  | [], _ :: _, l, _ => nomatch l
  | _ :: _, [], l, _ => nomatch l
theorem cr_listS {X : Cx} (calm : X.calm = true) : CallR X (.type "list") rListS := fun pins s σ H vs us Q I rel ⟨z, e, short, q⟩ => by
  subst e
  obtain ⟨u, rfl, ru⟩ := vals1 rel
  obtain ⟨t, rfl⟩ := ru
  have big : z.cps.size ≤ sizeLine := smallN short
  refine call_list_str (I.ok.hd calm) z t (fun h' tk acc c keep laid items => ?_) big
  have vals : Vals ((tl z).map fun c => V.str ⟨#[c]⟩) acc.toList := by
    refine vals_at (by rw [List.length_map, ← size_tl, Array.length_toList]; exact items.1.symm) fun i v x hv hx => ?_
    rw [Array.getElem?_toList] at hv
    obtain ⟨c, u, ec, rfl⟩ := items.2 i v hv
    rw [List.getElem?_map, take_at ec] at hx
    cases hx
    exact ⟨u, rfl⟩
  exact ⟨.ref _, upd H s.heap.objs.size (.lst ((tl z).map fun c => V.str ⟨#[c]⟩)), I.laid keep (Nat.le_refl _) ⟨by rw [List.length_map, ← size_tl]; exact big, acc.toList, c, vals, by rw [Array.toArray_toList]; exact laid⟩, rfl, q _ (I.hok.fresh (Nat.le_refl _))⟩
/-! ### bounds by names -/
def BsD (bs : List (Str × Bd)) (ps : List Addr) : List (Key × V) := List.zipWith (fun b p => (Sum.inr b.1, V.ref p)) bs ps
def BsAt (H : Hp) (d : Addr) (bs : List (Str × Bd)) : Prop := ∃ ps, H d = some (.dK (BsD bs ps)) ∧ Paired (BdAt H) ps (bs.map (·.2))
def needV (v : Verb) : Bool := match v with | .is => true | .there => true | _ => false
def neededB (bs : List (Str × Bd)) : List (Str × Bd) := bs.filter fun b => needV b.2.1
def neededL (bs : List (Str × Bd)) : List Str := (neededB bs).map (·.1)
theorem in_need (v : Verb) : inV (.str (vT v)) [.str "is", .str "there"] = needV v := by cases v <;> decide +kernel
theorem bsD_len {bs : List (Str × Bd)} {ps : List Addr} (h : ps.length = bs.length) : (BsD bs ps).length = bs.length := by unfold BsD; rw [List.length_zipWith, h, Nat.min_self]
theorem bsD_at {bs : List (Str × Bd)} {ps : List Addr} {i : Nat} {b : Str × Bd} {p : Addr} (h1 : bs[i]? = some b) (h2 : ps[i]? = some p) : (BsD bs ps)[i]? = some (Sum.inr b.1, V.ref p) := by
  unfold BsD; rw [List.getElem?_zipWith, h1, h2]
theorem bd_same {H H' : Hp} {p : Addr} {b : Bd} (s : Same H H') (h : BdAt H p b) : BdAt H' p b := have ⟨q, h1, h2⟩ := h; ⟨q, s _ _ h1, s _ _ h2⟩
theorem bs_same {H H' : Hp} {d : Addr} {bs : List (Str × Bd)} (s : Same H H') (h : BsAt H d bs) : BsAt H' d bs := have ⟨ps, h1, h2⟩ := h; ⟨ps, s _ _ h1, Paired.mono (fun _ _ => bd_same s) h2⟩
def sp_needed (K : PySem.W.Frag) : Sp := fun vs H Q _ => ∃ (d : Addr) (bs : List (Str × Bd)), vs = [.ref d] ∧ BsAt H d bs ∧ bs.length ≤ 100 ∧ ∀ p H', Same H H' → H' p = some (.lst ((neededL bs).map V.str)) → Q (.ref p) H'
theorem neededL_snoc (bs : List (Str × Bd)) (b : Str × Bd) : neededL (bs ++ [b]) = neededL bs ++ (if needV b.2.1 = true then [b.1] else []) := by
  unfold neededL neededB
  rw [List.filter_append, List.map_append]
  congr 1
  cases e : needV b.2.1 <;> simp [e]
theorem neededL_len (bs : List (Str × Bd)) : (neededL bs).length ≤ bs.length := by unfold neededL neededB; rw [List.length_map]; exact List.length_filter_le _ _
theorem ok_needed {P : Program} {w : World} {K : PySem.W.Frag} {mg : Str → Option Value} {base : Heap} {fd : FuncData} (T : Txt K mg w) (F : FnP K "needed" s_needed [] fd) : FnOk P w K mg base CX0 1 (He.ga K "needed") fd ps_needed (sp_needed K) := by
  refine F.ok sc_needed (fun vs H Q E h => ?len) (fun cdv A outer s H vs Q E hr h => ?body)
  case len => obtain ⟨d, bs, rfl, ⟨ps, gd, hp⟩, hlen, k⟩ := h; rfl
  case body =>
  obtain ⟨d, bs, rfl, ⟨ps, gd, hp⟩, hlen, k⟩ := h
  have hu := hu_of hr
  refine ⟨_, PSs.nox (pss_one (ps_ret (pe_lock (pe_lc (own := [("name", 1), ("word", 2), ("values", 3)]) (g := gTup K 2 (gCons (gName 1) (gCons (gTup K 2 (gCons (gName 2) (gCons (gName 3) gNil))) gNil))) rfl sc_needed.nd (pi_items (pv 0)) (blkOk_by (own := [("name", 1), ("word", 2), ("values", 3)]) (N := N_needed) (sc := defScope s_needed) (by decide +kernel)) (fun _ _ _ _ _ => (pg_tup rfl (pgs_cons (pg_name (i := 1) sc_needed.nd rfl (Or.inl rfl) (Or.inr rfl)) (pgs_cons (pg_tup rfl (pgs_cons (pg_name (i := 2) sc_needed.nd rfl (Or.inl rfl) (Or.inr rfl)) (pgs_cons (pg_name (i := 3) sc_needed.nd rfl (Or.inl rfl) (Or.inr rfl)) pgs_nil))) pgs_nil)))) (fun _ _ _ _ _ => (pts_one (pt_cmpR (show OpR _ (compareOp .In) (rIn K false) from op_in_seq) (pv 2) (pe_tup (pa_cons pe_str (pa_cons pe_str pa_nil))) (by rfl)))) (fun _ _ _ _ _ => (pv 1)))))), ?_⟩
  have lp : ps.length = bs.length := by rw [paired_len hp, List.length_map]
  have ld := bsD_len lp
  refine ⟨d, _, gd, True.intro, fun od => ?_⟩
  have gF : (upd H d (.frz od (.dK (BsD bs ps)))) d = _ := upd_same
  refine ⟨_, rfl, d, od, BsD bs ps, rfl, gF, fun D hD => ?_⟩
  have nD : D ≠ d := fun z => by rw [z, gF] at hD; cases hD
  refine lc_it walk_items (fun i H' => Same (upd H d (.frz od (.dK (BsD bs ps)))) H' ∧ H' D = some (.lst ((neededL (bs.take i)).map V.str))) ⟨Same.new hD, upd_same⟩ (fun i H' _ p => p.1 _ _ gF) ?_ ?_
  · rintro i x H1 H2 hi ⟨S1, gD⟩ ⟨T, x1, y1, rfl, hT, rfl, h1, h2⟩
    obtain ⟨b, hb⟩ : ∃ b, bs[i]? = some b := ⟨_, List.getElem?_eq_getElem (by omega)⟩
    obtain ⟨p, ep⟩ : ∃ p, ps[i]? = some p := ⟨_, List.getElem?_eq_getElem (by omega)⟩
    obtain ⟨b', hb', q, hp1, hq1⟩ := paired_at hp ep
    obtain rfl : b' = b.2 := by rw [List.getElem?_map, hb] at hb'; exact (Option.some.inj hb').symm
    have np : p ≠ d := ne_of hp1 gd fun z => by cases z
    have hp2 : upd H d (.frz od (.dK (BsD bs ps))) p = _ := (upd_ne np).trans hp1
    dsimp only at h1 h2
    rw [bsD_at hb ep] at h1 h2
    cases h1
    cases h2
    have S2 := Same.new (u := .tup [kV (Sum.inr b.1), V.ref p]) hT
    have gT : (upd H1 T (.tup [kV (Sum.inr b.1), V.ref p])) T = _ := upd_same
    generalize upd H1 T (.tup [kV (Sum.inr b.1), V.ref p]) = H2 at S2 gT ⊢
    refine ⟨T, _, rfl, SqT.of gT, rfl, _, _, rfl, _, _, rfl, p, _, rfl, SqT.of (S2 _ _ (S1 _ _ hp2)), rfl, _, _, rfl, _, _, rfl, rfl, rfl, rfl, ?_⟩
    refine ⟨_, rfl, smallN (by show 2 ≤ 1000; decide), fun t ht => ⟨t, _, rfl, .inr (SqT.of upd_same), rfl, rfl, _, rfl, ?_⟩⟩
    have S3 := S1.trans (S2.trans (Same.new (u := .tup [.str "is", .str "there"]) ht))
    have gD3 := Same.new (u := .tup [.str "is", .str "there"]) ht _ _ (S2 _ _ gD)
    rw [get_take hb, neededL_snoc]
    refine iteE (in_need b.2.1) (fun e => ?_) (fun e => ?_)
    · refine ⟨_, rfl, _, gD3, small1000 ?_, fun a o ha => ?_, ?_⟩
      · rw [List.length_map]; have := neededL_len (bs.take i); rw [List.length_take] at this; omega
      · rw [upd_ne (ne_of_none ha hD)]; exact S3 _ _ ha
      · rw [upd_same, e, List.map_append]; rfl
    · rw [e]
      exact ⟨S3, by rw [gD3, if_neg (by decide), List.append_nil]⟩
  · rintro H' ⟨S1, gD⟩
    rw [ld, List.take_length] at gD
    refine ⟨S1 _ _ gF, k D _ (fun a o ha => ?_) (by rw [upd_ne nD]; exact gD)⟩
    by_cases e : a = d
    · subst e; rw [gd] at ha; cases ha; exact upd_same
    · rw [upd_ne e]; exact S1 _ _ (by rw [upd_ne e]; exact ha)
/-- the rows for a name -/
def ownR (rs : List Row) (n : Str) : List Row := rs.filter fun r => decide (r.nm = n)
def IsB (rs : List Row) (bs : List (Str × Bd)) : Prop := bs.map (·.1) = sortU (rs.map (·.nm)) ∧ ∀ b ∈ bs, boundOf (ownR rs b.1) = some b.2
def NoB (rs : List Row) : Prop := (∃ n ∈ rs.map (·.nm), boundOf (ownR rs n) = none) ∨ ∃ bs, IsB rs bs ∧ 8 < (neededL bs).length
def sp_bounds_of (K : PySem.W.Frag) : Sp := fun vs H Q _ => ∃ (L : Addr) (rs : List Row), vs = [.ref L] ∧ RowsAt H L rs ∧ rs.length ≤ 30 ∧ (NoB rs → ∀ H', Same H H' → Q .non H') ∧
  ∀ (bs : List (Str × Bd)) (d : Addr) (H' : Hp), IsB rs bs → (neededL bs).length ≤ 8 → Same H H' → H d = none → BsAt H' d bs → Q (.ref d) H'
theorem ownR_snoc (rs : List Row) (r : Row) (n : Str) : ownR (rs ++ [r]) n = ownR rs n ++ (if r.nm = n then [r] else []) := by
  unfold ownR; rw [List.filter_append]; congr 1
  by_cases e : r.nm = n <;> simp [e]
theorem ownR_len (rs : List Row) (n : Str) : (ownR rs n).length ≤ rs.length := List.length_filter_le _ _
theorem bsD_none : ∀ {bs : List (Str × Bd)} {ps : List Addr} {n : Str}, n ∉ bs.map (·.1) → valV (BsD bs ps) (Sum.inr n) = none
  | [], _, _, _ => rfl
  | _ :: _, [], _, _ => rfl
  | b :: bs, p :: ps, n, h => by
    show valV ((Sum.inr b.1, V.ref p) :: BsD bs ps) (Sum.inr n) = none
    rw [valV_neg (p := (Sum.inr b.1, V.ref p)) (fun e => h (by injection e with e; rw [← e]; simp))]
    exact bsD_none fun z => h (by rw [List.map_cons]; exact List.mem_cons_of_mem _ z)
theorem bsD_snoc {bs : List (Str × Bd)} {ps : List Addr} (h : ps.length = bs.length) (n : Str) (b : Bd) (p : Addr) : BsD bs ps ++ [(Sum.inr n, V.ref p)] = BsD (bs ++ [(n, b)]) (ps ++ [p]) := by
  unfold BsD; rw [List.zipWith_append h.symm]; rfl
theorem ok_bounds_of {P : Program} {w : World} {K : PySem.W.Frag} {mg : Str → Option Value} {base : Heap} {fd : FuncData} (T : Txt K mg w) (F : FnP K "bounds_of" s_bounds_of [] fd) : FnOk P w K mg base CX0 2 (He.ga K "bounds_of") fd ps_bounds_of (sp_bounds_of K) := by
  obtain ⟨fd_bound_of, F_bound_of⟩ := T.d_bound_of
  have G_bound_of := ok_bound_of (P := P) (w := w) (base := base) T F_bound_of
  have k_bound_of := F_bound_of.kp
  have b_bound_of := bi_bound_of F_bound_of
  obtain ⟨fd_needed, F_needed⟩ := T.d_needed
  have G_needed := ok_needed (P := P) (w := w) (base := base) T F_needed
  have k_needed := F_needed.kp
  have b_needed := bi_needed F_needed
  obtain ⟨t_MOST_LABELS, h_MOST_LABELS⟩ := T.c_MOST_LABELS
  refine F.ok sc_bounds_of (fun vs H Q E h => ?len) (fun cdv A outer s H vs Q E hr h => ?body)
  case len => obtain ⟨L, rs, rfl, ⟨ps, gL, hp⟩, hlen, k0, k1⟩ := h; rfl
  case body =>
  obtain ⟨L, rs, rfl, ⟨ps, gL, hp⟩, hlen, k0, k1⟩ := h
  have hu := hu_of hr
  refine ⟨_, PSs.nox (pss_cons (ps_set (i := 1) sc_bounds_of.nd rfl (Or.inl rfl) pe_dnewK)
    (pss_cons (ps_for PassesOwn.never rfl (pi_list (pe_callB (cr_sortTx rfl) (by rfl) T.n_sorted (by decide +kernel) (pa_cons (pe_scx (own := [("row", 4)]) rfl sc_bounds_of.nd (pi_list (pv 0)) (blkOk_by (own := [("row", 4)]) (N := N_bounds_of) (sc := defScope s_bounds_of) (by decide +kernel)) (fun _ _ _ _ _ => (pg_name (i := 4) sc_bounds_of.nd rfl (Or.inl rfl))) (fun _ _ _ _ _ => pts_nil) (fun _ _ _ _ _ => (pe_ix (show IxR _ (rIxT K) from ix_tup) (pv 4) pe_int (fun _ _ => rfl)))) pa_nil))) (pg_name (i := 2) sc_bounds_of.nd rfl (Or.inr rfl))
      (pss_cons (ps_set (i := 3) sc_bounds_of.nd rfl (Or.inl rfl) (pe_call G_bound_of (hr.mono (by first | decide | omega)) rfl T.g_bound_of k_bound_of b_bound_of .nil pass0 (pa_cons (pe_lc (own := [("row", 4)]) rfl sc_bounds_of.nd (pi_list (pv 0)) (blkOk_by (own := [("row", 4)]) (N := N_bounds_of) (sc := defScope s_bounds_of) (by decide +kernel)) (fun _ _ _ _ _ => (pg_name (i := 4) sc_bounds_of.nd rfl (Or.inl rfl))) (fun _ _ _ _ _ => (pts_one (pt_cmpR op_eq (pe_ix (show IxR _ (rIxT K) from ix_tup) (pv 4) pe_int (fun _ _ => rfl)) (pv 2) (nomark _)))) (fun _ _ _ _ _ => (pv 4))) pa_nil)))
        (pss_cons (ps_if (pt_cmpR op_isN (pv 3) pe_non (nomark _)) (pss_one (ps_ret pe_non)) pss_nil)
        (pss_one (ps_dput hu (pv 1) (pv 2) (pv 3) rfl)))))
    (pss_one (ps_ret (pe_ifExp (pt_cmpR op_le (pe_callB call_len_seq (by rfl) T.n_len (by decide +kernel) (pa_cons (pe_call G_needed (hr.mono (by first | decide | omega)) rfl T.g_needed k_needed b_needed .nil pass0 (pa_cons (pv 1) pa_nil)) pa_nil)) (pe_glob (v := .int 8) rfl h_MOST_LABELS ⟨_, rfl⟩) (nomark _)) (pv 1) pe_non))))), ?_⟩
  have lp := paired_len hp
  intro F hF
  have SF := Same.new (u := .dK []) hF
  have gF0 : (upd H F (.dK [])) F = _ := upd_same
  have freeF : H F = none := hF
  generalize upd H F (.dK []) = H0 at SF gF0 ⊢
  refine ⟨_, rfl, L, rfl, ⟨_, SqL.of (SF _ _ gL)⟩, fun D hD => ?_⟩
  refine scx_it (walk_list (xs := ps.map V.ref)) (fun i H' => Same H0 H' ∧ H' D = some (TxO P w D (putAll [] ((rs.take i).map (·.nm))))) ⟨Same.new hD, upd_same⟩ (fun i H' _ p => SqL.of (p.1 _ _ (SF _ _ gL))) ?_ ?_
  · rintro i x H1 _ hi ⟨S1, gD⟩ ⟨rfl, hx⟩
    rw [List.getElem?_map] at hx
    obtain ⟨p, ep, rfl⟩ := Option.map_eq_some_iff.mp hx
    obtain ⟨r, er, hr1⟩ : ∃ r, rs[i]? = some r ∧ RowAt H p r := paired_at hp ep
    refine ⟨rfl, yes_ (iteT ?_)⟩
    refine ⟨_, rfl, p, _, 0, .str r.nm, rfl, rfl, SqT.of (S1 _ _ (SF _ _ hr1)), rfl, r.nm, _, rfl, gD, ?_, fun b o hb => ?_, ?_⟩
    · have a := putAll_len ((rs.take i).map (·.nm)) []
      rw [List.length_map, List.length_take, List.length_nil] at a
      unfold scanBound; omega
    · rw [upd_ne (ne_of_none hb hD)]; exact S1 b o hb
    · rw [upd_same, get_take er, List.map_append, List.map_cons, List.map_nil, putAll_snoc]; rfl
  rintro H1 ⟨S1, gD⟩
  rw [List.length_map, lp, List.take_length] at gD
  have many := putAll_len (rs.map (·.nm)) []
  rw [List.length_map, List.length_nil] at many
  refine ⟨D, _, rfl, gD, by omega, fun pN hN => ?_⟩
  have once : (sortU (rs.map (·.nm))).Nodup := sortU_once _
  have mem : ∀ n ∈ sortU (rs.map (·.nm)), n ∈ rs.map (·.nm) := fun n h => sortU_mem.mp h
  have lN : (sortU (rs.map (·.nm))).length ≤ 30 := by have := sortU_len (rs.map (·.nm)); rw [List.length_map] at this; omega
  have eN : srt (putAll [] (rs.map (·.nm))) = sortU (rs.map (·.nm)) := rfl
  have iB : ∀ bs, IsB rs bs = (bs.map (·.1) = sortU (rs.map (·.nm)) ∧ ∀ b ∈ bs, boundOf (ownR rs b.1) = some b.2) := fun _ => rfl
  rw [eN]
  generalize sortU (rs.map (·.nm)) = ns at once mem lN iB ⊢
  have S2 := S1.trans (Same.new (u := .lst (ns.map V.str)) hN)
  have gN : (upd H1 pN (.lst (ns.map V.str))) pN = _ := upd_same
  generalize upd H1 pN (.lst (ns.map V.str)) = H2 at S2 gN ⊢
  refine ⟨pN, rfl, ⟨_, SqL.of gN⟩, for_list (K := K) (a := pN) (xs := ns.map V.str) (fun i σ H' => ∃ (v2 v3 v4 : Option V) (bs : List (Str × Bd)) (qs : List Addr), σ = [some (.ref L), some (.ref F), v2, v3, v4] ∧ Same H H' ∧ H' pN = some (.lst (ns.map V.str)) ∧ H' F = some (.dK (BsD bs qs)) ∧
      Paired (BdAt H') qs (bs.map (·.2)) ∧ bs.map (·.1) = ns.take i ∧ ∀ b ∈ bs, boundOf (ownR rs b.1) = some b.2)
    ⟨_, _, _, [], [], rfl, SF.trans S2, gN, S2 _ _ gF0, .nil, rfl, fun b hb => nomatch hb⟩ (fun i σ H' _ ⟨_, _, _, _, _, _, _, g, _⟩ => SqL.of g) ?_ ?_⟩
  · rintro i x σ H3 hx ⟨v2, v3, v4, bs, qs, rfl, S3, g3N, g3F, hq, hns, hbs⟩
    rw [List.getElem?_map] at hx
    obtain ⟨n, en, rfl⟩ := Option.map_eq_some_iff.mp hx
    have lq : qs.length = bs.length := by rw [paired_len hq, List.length_map]
    have lb : bs.length ≤ 30 := by
      have := congrArg List.length hns
      rw [List.length_map, List.length_take] at this; omega
    have nF : F ≠ pN := ne_of g3F g3N fun z => by cases z
    refine ⟨_, rfl, L, rfl, ⟨_, SqL.of (S3 _ _ gL)⟩, fun D2 hD2 => ?_⟩
    refine lc_list (K := K) (a := L) (xs := ps.map V.ref) (fun j H' => Same H3 H' ∧ ∃ qs2 : List Addr, H' D2 = some (.lst (qs2.map V.ref)) ∧ Paired (RowAt H) qs2 (ownR (rs.take j) n)) ⟨Same.new hD2, [], upd_same, by rw [List.take_zero]; exact .nil⟩ (fun j H' _ p => SqL.of (p.1 _ _ (S3 _ _ gL))) ?_ ?_
    · rintro j x H4 hx ⟨S4, qs2, g4, hp4⟩
      rw [List.getElem?_map] at hx
      obtain ⟨p, ep, rfl⟩ := Option.map_eq_some_iff.mp hx
      obtain ⟨r, er, hr1⟩ : ∃ r, rs[j]? = some r ∧ RowAt H p r := paired_at hp ep
      refine ⟨rfl, _, rfl, p, _, 0, .str r.nm, rfl, rfl, SqT.of (S4 _ _ (S3 _ _ hr1)), rfl, _, rfl, rfl, _, rfl, ?_⟩
      rw [get_take er, ownR_snoc]
      by_cases e : r.nm = n
      · rw [decide_eq_true (show V.str r.nm = V.str n by rw [e]), if_pos e]
        refine iteT ⟨_, rfl, _, g4, small1000 ?_, fun b o hb => ?_, qs2 ++ [p], ?_, paired_snoc hr1 hp4⟩
        · rw [List.length_map, paired_len hp4]
          have := ownR_len (rs.take j) n
          rw [List.length_take] at this; omega
        · rw [upd_ne (ne_of_none hb hD2)]; exact S4 b o hb
        · rw [upd_same, List.map_append]; rfl
      · rw [decide_eq_false (show ¬ V.str r.nm = V.str n from fun z => e (by injection z)), if_neg e, List.append_nil]
        exact iteF ⟨S4, qs2, g4, hp4⟩
    rintro H4 ⟨S4, qs2, g4, hp4⟩
    rw [List.length_map, lp, List.take_length] at hp4
    have S34 := S3.trans S4
    refine ⟨D2, ownR rs n, rfl, ⟨qs2, g4, Paired.mono (fun _ _ => S34 _ _) hp4⟩, Nat.le_trans (ownR_len _ _) hlen, fun none_ H5 S5 => ?_, fun b p H5 eb S5 hb => ?_⟩
    · refine ⟨_, rfl, rfl, _, rfl, iteT (k0 (.inl ⟨n, mem n (mem_at en), none_⟩) H5 (S34.trans S5))⟩
    · refine ⟨_, rfl, rfl, _, rfl, iteF ?_⟩
      have g5F := S5 _ _ (S4 _ _ g3F)
      have new : n ∉ bs.map (·.1) := by
        rw [hns]
        intro z
        obtain ⟨j, hj⟩ := List.mem_iff_getElem?.mp z
        rw [List.getElem?_take] at hj
        split at hj
        · rename_i lt
          exact absurd ((List.getElem?_inj (lt_at hj) once).mp (hj.trans en.symm)) (Nat.ne_of_lt lt)
        · cases hj
      refine ⟨_, rfl, _, rfl, _, rfl, F, _, rfl, DPut.k (k := Sum.inr n) g5F (small1000 (by rw [bsD_len lq]; omega)), ?_⟩
      rw [putK_new _ (bsD_none new), bsD_snoc lq n b p]
      have ok : ∀ (a : Addr) (c : Bd), BdAt H5 a c → BdAt (upd H5 F (.dK (BsD (bs ++ [(n, b)]) (qs ++ [p])))) a c := fun a c ⟨q, h1, h2⟩ => ⟨q, by rw [upd_ne (ne_of h1 g5F fun z => by cases z)]; exact h1, by rw [upd_ne (ne_of h2 g5F fun z => by cases z)]; exact h2⟩
      refine ⟨_, _, _, bs ++ [(n, b)], qs ++ [p], rfl, fun a o ha => ?_, ?_, upd_same, ?_, ?_, ?_⟩
      · rw [upd_ne (ne_of_none ha freeF)]; exact S5 _ _ (S34 _ _ ha)
      · rw [upd_ne nF.symm]; exact S5 _ _ (S4 _ _ g3N)
      · rw [List.map_append]
        exact paired_snoc (ok _ _ hb) (Paired.mono (fun a c h => ok a c (bd_same (S4.trans S5) h)) hq)
      · rw [List.map_append, hns, get_take en]; rfl
      · intro c hc
        rcases List.mem_append.mp hc with hc | hc
        · exact hbs c hc
        · rw [List.mem_singleton.mp hc]; exact eb
  · rintro σ H3 ⟨v2, v3, v4, bs, qs, rfl, S3, g3N, g3F, hq, hns, hbs⟩
    rw [List.length_map, List.take_length] at hns
    have lb : bs.length ≤ 30 := by
      have := congrArg List.length hns
      rw [List.length_map] at this; omega
    have is_ : IsB rs bs := by rw [iB]; exact ⟨hns, hbs⟩
    refine ⟨_, rfl, F, bs, rfl, ⟨qs, g3F, hq⟩, by omega, fun p H4 S4 gp => ⟨p, _, rfl, .inl (SqL.of gp), _, _, rfl, rfl, _, rfl, ?_⟩⟩
    refine iteE (b := decide ((neededL bs).length ≤ 8)) (decide_eq_decide.mpr (by rw [List.length_map]; omega)) (fun h => ?_) (fun h => ?_)
    · exact ⟨_, rfl, k1 bs F H4 is_ (of_decide_eq_true h) (S3.trans S4) freeF (bs_same S4 ⟨qs, g3F, hq⟩)⟩
    · exact k0 (.inr ⟨bs, is_, by have := of_decide_eq_false h; omega⟩) H4 (S3.trans S4)
/-! ### the least labels -/
def cands : List Str := "" :: (tl smallT).map fun c => ⟨#[c]⟩
def freeT (vals : List Str) : Str := (cands.filter fun c => !decide (c ∈ vals)).headD ""
def pickT (b : Bd) : Str := match b.1 with | .is => b.2.headD "" | _ => freeT b.2
def labelsF (bs : List (Str × Bd)) : List (Str × Str) := (neededB bs).map fun b => (b.1, pickT b.2)
theorem cands_len : cands.length = 27 := by decide +kernel
theorem cands_once : cands.Nodup := by decide +kernel
theorem cands_ok : (cands.all fun c => lvalB c && decide (c.length ≤ 1)) = true := by decide +kernel
theorem within_len : ∀ {l ks : List Str}, l.Nodup → (∀ x ∈ l, x ∈ ks) → l.length ≤ ks.length
  | [], _, _, _ => Nat.zero_le _
  | x :: r, ks, nd, sub => by
    have ⟨nx, nr⟩ := List.nodup_cons.mp nd
    have le := within_len nr fun y hy => (List.mem_erase_of_ne fun z : y = x => nx (z ▸ hy)).mpr (sub y (List.mem_cons_of_mem _ hy))
    have p := (List.perm_cons_erase (sub x List.mem_cons_self)).length_eq
    simp only [List.length_cons] at p ⊢
    omega
/-- of so few values one is free -/
theorem free_some {vals : List Str} (h : vals.length ≤ 26) : ∃ c cs, (cands.filter fun c => !decide (c ∈ vals)) = c :: cs ∧ freeT vals = c ∧ c ∈ cands ∧ c ∉ vals := by
  cases e : cands.filter fun c => !decide (c ∈ vals) with
  | nil =>
    exfalso
    have sub : ∀ c ∈ cands, c ∈ vals := fun c hc => by
      have q := List.filter_eq_nil_iff.mp e c hc
      simpa using q
    have := within_len cands_once sub
    rw [cands_len] at this
    omega
  | cons c cs =>
    have hc : c ∈ cands.filter fun c => !decide (c ∈ vals) := by rw [e]; exact List.mem_cons_self
    obtain ⟨h1, h2⟩ := List.mem_filter.mp hc
    exact ⟨c, cs, rfl, by unfold freeT; rw [e]; rfl, h1, by simpa using h2⟩
def sp_labels_for (K : PySem.W.Frag) : Sp := fun vs H Q _ => ∃ (d : Addr) (bs : List (Str × Bd)), vs = [.ref d] ∧ BsAt H d bs ∧ bs.length ≤ 100 ∧ (bs.map (·.1)).Nodup ∧ (∀ b ∈ bs, b.2.2.length ≤ 26 ∧ (b.2.1 = .is → b.2.2 ≠ [])) ∧
  ∀ p H', Same H H' → H p = none → H' p = some (.dK (labD (labelsF bs))) → Q (.ref p) H'
theorem bsD_val : ∀ {bs : List (Str × Bd)} {ps : List Addr} {i : Nat} {b : Str × Bd} {p : Addr}, (bs.map (·.1)).Nodup → bs[i]? = some b → ps[i]? = some p → valV (BsD bs ps) (Sum.inr b.1) = some (.ref p)
  | [], _, _, _, _, _, h, _ => by simp at h
  | _ :: _, [], _, _, _, _, _, h => by simp at h
  | c :: bs, q :: ps, 0, b, p, _, h1, h2 => by
    obtain rfl : c = b := by simpa using h1
    obtain rfl : q = p := by simpa using h2
    exact valV_pos rfl
  | c :: bs, q :: ps, i + 1, b, p, nd, h1, h2 => by
    rw [List.map_cons, List.nodup_cons] at nd
    have h1' : bs[i]? = some b := by simpa using h1
    show valV ((Sum.inr c.1, V.ref q) :: BsD bs ps) (Sum.inr b.1) = _
    rw [valV_neg (p := (Sum.inr c.1, V.ref q)) (fun e => nd.1 (by injection e with e; rw [e]; exact List.mem_map_of_mem (mem_at h1')))]
    exact bsD_val nd.2 h1' (by simpa using h2)
theorem ok_labels_for {P : Program} {w : World} {K : PySem.W.Frag} {mg : Str → Option Value} {base : Heap} {fd : FuncData} (T : Txt K mg w) (F : FnP K "labels_for" s_labels_for [] fd) : FnOk P w K mg base CX0 2 (He.ga K "labels_for") fd ps_labels_for (sp_labels_for K) := by
  obtain ⟨fd_needed, F_needed⟩ := T.d_needed
  have G_needed := ok_needed (P := P) (w := w) (base := base) T F_needed
  have k_needed := F_needed.kp
  have b_needed := bi_needed F_needed
  obtain ⟨t_SMALL, h_SMALL⟩ := T.c_SMALL
  refine F.ok sc_labels_for (fun vs H Q E h => ?len) (fun cdv A outer s H vs Q E hr h => ?body)
  case len => obtain ⟨d, bs, rfl, ⟨ps, gd, hp⟩, hlen, nd, hv, k⟩ := h; rfl
  case body =>
  obtain ⟨d, bs, rfl, ⟨ps, gd, hp⟩, hlen, nd, hv, k⟩ := h
  have hu := hu_of hr
  refine ⟨_, PSs.nox (pss_cons (ps_set (i := 1) sc_labels_for.nd rfl (Or.inl rfl) pe_dnewK)
    (pss_cons (ps_for PassesOwn.never rfl (pi_list (pe_call G_needed (hr.mono (by first | decide | omega)) rfl T.g_needed k_needed b_needed .nil pass0 (pa_cons (pv 0) pa_nil))) (pg_name (i := 2) sc_labels_for.nd rfl (Or.inl rfl))
      (pss_cons (ps_asg (pe_dget hu (pv 0) (pv 2) (fun _ _ => rfl)) (pg_tup rfl (pgs_cons (pg_name (i := 3) sc_labels_for.nd rfl (Or.inl rfl)) (pgs_cons (pg_name (i := 4) sc_labels_for.nd rfl (Or.inr rfl)) pgs_nil))))
        (pss_cons (ps_setLc (i := 5) (own := [("text", 6)]) rfl sc_labels_for.nd rfl rfl (sw_true rfl rfl rfl (by decide +kernel)) (pi_list (pe_op op_cat (pe_lst (pa_cons pe_str pa_nil)) (pe_callTy (cr_listS rfl) (by rfl) T.n_list (by decide +kernel) (pa_cons (pe_glob (v := .str "abcdefghijklmnopqrstuvwxyz") rfl h_SMALL ⟨_, rfl⟩) pa_nil)))) (blkOk_by (own := [("text", 6)]) (N := N_labels_for) (sc := defScope s_labels_for) (by decide +kernel)) (fun _ _ _ _ _ => (pg_name (i := 6) sc_labels_for.nd rfl (Or.inl rfl))) (fun _ _ _ _ _ => (pts_one (pt_cmpR (show OpR _ (compareOp .NotIn) (rIn K true) from op_notIn_seq) (pv 6) (pv 4) (by rfl)))) (fun _ _ _ _ _ => (pv 6)))
        (pss_one (ps_dput hu (pv 1) (pv 2) (pe_ifExp (pt_cmpR op_eq (pv 3) pe_str (nomark _)) (pe_ix ix_list (pv 4) pe_int (fun _ _ => rfl)) (pe_ix ix_list (pv 5) pe_int (fun _ _ => rfl))) rfl)))))
    (pss_one (ps_ret (pv 1))))), ?_⟩
  have lp : ps.length = bs.length := by rw [paired_len hp, List.length_map]
  intro F hF
  have SF := Same.new (u := .dK []) hF
  have gF0 : (upd H F (.dK [])) F = _ := upd_same
  have freeF : H F = none := hF
  generalize upd H F (.dK []) = H0 at SF gF0 ⊢
  refine ⟨_, rfl, d, bs, rfl, bs_same SF ⟨ps, gd, hp⟩, hlen, fun pN H1 S1 gN => ?_⟩
  have lb := neededL_len bs
  have ndN : ((neededB bs).map (·.1)).Nodup := List.Sublist.nodup (List.Sublist.map _ List.filter_sublist) nd
  refine ⟨pN, rfl, ⟨_, SqL.of gN⟩, for_list (K := K) (a := pN) (xs := (neededL bs).map V.str) (fun i σ H' => ∃ (v2 v3 v4 v5 v6 : Option V), σ = [some (.ref d), some (.ref F), v2, v3, v4, v5, v6] ∧ Same H H' ∧ H' pN = some (.lst ((neededL bs).map V.str)) ∧
      H' F = some (.dK (labD (((neededB bs).take i).map fun b => (b.1, pickT b.2)))))
    ⟨_, _, _, _, _, rfl, SF.trans S1, gN, S1 _ _ gF0⟩ (fun i σ H' _ ⟨_, _, _, _, _, _, _, g, _⟩ => SqL.of g) ?_ ?_⟩
  · rintro i x σ H3 hx ⟨v2, v3, v4, v5, v6, rfl, S3, g3N, g3F⟩
    rw [List.getElem?_map] at hx
    obtain ⟨n, en, rfl⟩ := Option.map_eq_some_iff.mp hx
    unfold neededL at en
    rw [List.getElem?_map] at en
    obtain ⟨b, eb, rfl⟩ := Option.map_eq_some_iff.mp en
    have hb : b ∈ bs := (List.mem_filter.mp (mem_at eb)).1
    obtain ⟨j, ej⟩ := List.mem_iff_getElem?.mp hb
    obtain ⟨p, ep⟩ : ∃ p, ps[j]? = some p := ⟨_, List.getElem?_eq_getElem (by have := lt_at ej; omega)⟩
    obtain ⟨b', eb', q, hp1, hq1⟩ := paired_at hp ep
    obtain rfl : b' = b.2 := by rw [List.getElem?_map, ej] at eb'; exact (Option.some.inj eb').symm
    have hg : DGet H3 d (.str b.1) (some (.ref p)) := by
      have := DGet.k (k := Sum.inr b.1) (S3 _ _ gd)
      rw [bsD_val nd ej ep] at this
      exact this
    obtain ⟨few, some_⟩ := hv b hb
    refine ⟨_, rfl, _, rfl, d, _, rfl, hg, p, _, rfl, SqT.of (S3 _ _ hp1), rfl, _, _, rfl, _, _, rfl, rfl, ?_⟩
    refine ⟨smallN (by show 1 ≤ 1000; decide), fun p1 q1 => ⟨_, rfl, (by decide +kernel), fun p2 q2 => ?_⟩⟩
    have S4 := S3.trans ((Same.new (u := .lst [.str ""]) q1).trans (Same.new (u := .lst ((tl "abcdefghijklmnopqrstuvwxyz").map fun c => V.str ⟨#[c]⟩)) q2))
    have S34 := (Same.new (u := .lst [.str ""]) q1).trans (Same.new (u := .lst ((tl "abcdefghijklmnopqrstuvwxyz").map fun c => V.str ⟨#[c]⟩)) q2)
    have g41 : upd (upd H3 p1 (.lst [.str ""])) p2 (.lst ((tl "abcdefghijklmnopqrstuvwxyz").map fun c => V.str ⟨#[c]⟩)) p1 = _ := Same.new q2 _ _ upd_same
    have g42 : upd (upd H3 p1 (.lst [.str ""])) p2 (.lst ((tl "abcdefghijklmnopqrstuvwxyz").map fun c => V.str ⟨#[c]⟩)) p2 = _ := upd_same
    have ec : [V.str ""] ++ ((tl "abcdefghijklmnopqrstuvwxyz").map fun c => V.str ⟨#[c]⟩) = cands.map V.str := by unfold cands; rw [List.map_cons, List.map_map]; rfl
    generalize upd (upd H3 p1 (.lst [.str ""])) p2 (.lst ((tl "abcdefghijklmnopqrstuvwxyz").map fun c => V.str ⟨#[c]⟩)) = H4 at S4 S34 g41 g42 ⊢
    have lc : ([V.str ""] ++ ((tl "abcdefghijklmnopqrstuvwxyz").map fun c => V.str ⟨#[c]⟩)).length ≤ 1000 := by rw [ec, List.length_map, cands_len]; decide
    refine ⟨p1, p2, _, _, rfl, rfl, g41, g42, smallN lc, fun p3 q3 => ?_⟩
    rw [ec]
    have S5 := S34.trans (Same.new (u := .lst (cands.map V.str)) q3)
    have g53 : (upd H4 p3 (.lst (cands.map V.str))) p3 = _ := upd_same
    generalize upd H4 p3 (.lst (cands.map V.str)) = H5 at S5 g53 ⊢
    refine ⟨p3, rfl, ⟨_, SqL.of g53⟩, fun D hD => ?_⟩
    refine lc_list (K := K) (a := p3) (xs := cands.map V.str) (fun j H' => Same H5 H' ∧ H' D = some (.lst (((cands.take j).filter fun c => !decide (c ∈ b.2.2)).map V.str))) ⟨Same.new hD, upd_same⟩ (fun j H' _ p => SqL.of (p.1 _ _ g53)) ?_ ?_
    · rintro j x H6 hx ⟨S6, g6⟩
      rw [List.getElem?_map] at hx
      obtain ⟨c, ec', rfl⟩ := Option.map_eq_some_iff.mp hx
      have gq := S6 _ _ (S5 _ _ (S3 _ _ hq1))
      refine ⟨rfl, _, rfl, _, rfl, q, _, rfl, .inl (SqL.of gq), rfl, flat_strs id _, _, rfl, ?_⟩
      rw [get_take ec', List.filter_append, List.map_append]
      refine iteE (b := !decide (c ∈ b.2.2)) (congrArg not (in_list c b.2.2)) (fun e => ?_) (fun e => ?_)
      · refine ⟨_, rfl, _, g6, small1000 ?_, fun a o ha => ?_, ?_⟩
        · rw [List.length_map]
          have := List.length_filter_le (fun c => !decide (c ∈ b.2.2)) (cands.take j)
          rw [List.length_take, cands_len] at this; omega
        · rw [upd_ne (ne_of_none ha hD)]; exact S6 _ _ ha
        · rw [upd_same]
          have : ([c].filter fun c => !decide (c ∈ b.2.2)) = [c] := by rw [List.filter_cons, e]; rfl
          rw [this]; rfl
      · have : ([c].filter fun c => !decide (c ∈ b.2.2)) = [] := by rw [List.filter_cons, e]; rfl
        rw [this]
        exact ⟨S6, by rw [g6, List.map_nil, List.append_nil]⟩
    rintro H6 ⟨S6, g6⟩
    rw [List.length_map, List.take_length] at g6
    have S36 := S5.trans S6
    have g6F := S36 _ _ g3F
    have gq := S36 _ _ (S3 _ _ hq1)
    -- the store
    have new : b.1 ∉ (((neededB bs).take i).map fun b => (b.1, pickT b.2)).map (·.1) := by
      rw [List.map_map]
      intro z
      obtain ⟨c, hc, ez⟩ := List.mem_map.mp z
      obtain ⟨j', hj'⟩ := List.mem_iff_getElem?.mp hc
      rw [List.getElem?_take] at hj'
      split at hj'
      · rename_i lt
        have h1 : ((neededB bs).map (·.1))[j']? = some b.1 := by rw [List.getElem?_map, hj']; exact congrArg some ez
        have h2 : ((neededB bs).map (·.1))[i]? = some b.1 := by rw [List.getElem?_map, eb]; rfl
        exact absurd ((List.getElem?_inj (lt_at h1) ndN).mp (h1.trans h2.symm)) (Nat.ne_of_lt lt)
      · cases hj'
    have eP : putK (labD (((neededB bs).take i).map fun b => (b.1, pickT b.2))) (Sum.inr b.1) (.str (pickT b.2)) = labD (((neededB bs).take (i + 1)).map fun b => (b.1, pickT b.2)) := by
      rw [putK_new _ (show valV (labD _) (Sum.inr b.1) = none from look_none new), get_take eb, List.map_append]
      unfold labD
      rw [List.map_append]; rfl
    have nF : F ≠ pN := ne_of g3F g3N fun z => by cases z
    have len : (labD (((neededB bs).take i).map fun b => (b.1, pickT b.2))).length < sizeLine := small1000 (by
      unfold labD
      rw [List.length_map, List.length_map, List.length_take]
      have : (neededL bs).length = (neededB bs).length := by unfold neededL; rw [List.length_map]
      omega)
    have last : Same H (upd H6 F (.dK (labD (((neededB bs).take (i + 1)).map fun b => (b.1, pickT b.2))))) ∧ upd H6 F (.dK (labD (((neededB bs).take (i + 1)).map fun b => (b.1, pickT b.2)))) pN = some (.lst ((neededL bs).map V.str)) := by
      refine ⟨fun a o ha => ?_, ?_⟩
      · rw [upd_ne (ne_of_none ha freeF)]; exact S36 _ _ (S3 _ _ ha)
      · rw [upd_ne nF.symm]; exact S36 _ _ g3N
    refine ⟨_, rfl, rfl, _, rfl, ?_⟩
    refine iteE (b := decide (b.2.1 = .is)) (decide_eq_decide.mpr ⟨fun z => vT_inj (a := b.2.1) (b := .is) (by injection z), fun z => by rw [z]; rfl⟩) (fun e => ?_) (fun e => ?_)
    · have e := of_decide_eq_true e
      obtain ⟨z, zs, ez⟩ : ∃ z zs, b.2.2 = z :: zs := by
        cases q : b.2.2 with
        | nil => exact absurd q (some_ e)
        | cons z zs => exact ⟨z, zs, rfl⟩
      have hz : z = pickT b.2 := by unfold pickT; rw [e, ez]; rfl
      refine ⟨_, rfl, q, _, 0, .str z, rfl, rfl, SqL.of gq, (by rw [ez]; exact atI_nat (j := 0) rfl), ?_⟩
      rw [hz]
      refine ⟨_, rfl, _, rfl, F, _, rfl, DPut.k (k := Sum.inr b.1) g6F len, ?_⟩
      rw [eP]
      exact ⟨_, _, _, _, _, rfl, last.1, last.2, upd_same⟩
    · have e := of_decide_eq_false e
      obtain ⟨c, cs, e1, e2, _, _⟩ := free_some few
      have hz : c = pickT b.2 := by unfold pickT; split <;> first | exact absurd (by assumption) e | exact e2.symm
      refine ⟨_, rfl, D, _, 0, .str c, rfl, rfl, SqL.of g6, (by rw [e1]; exact atI_nat (j := 0) rfl), ?_⟩
      rw [hz]
      refine ⟨_, rfl, _, rfl, F, _, rfl, DPut.k (k := Sum.inr b.1) g6F len, ?_⟩
      rw [eP]
      exact ⟨_, _, _, _, _, rfl, last.1, last.2, upd_same⟩
  · rintro σ H3 ⟨v2, v3, v4, v5, v6, rfl, S3, g3N, g3F⟩
    have e : ((neededL bs).map V.str).length = (neededB bs).length := by unfold neededL; rw [List.length_map, List.length_map]
    rw [e, List.take_length] at g3F
    exact ⟨_, rfl, k F H3 S3 freeF g3F⟩

/-! ### what a bound says, and what rows say -/
def satB (b : Bd) (o : Option V) : Prop := match b.1 with
  | .is => o = some (.str (b.2.headD ""))
  | .missing => o = none
  | .there => o.isSome = true ∧ ∀ v ∈ b.2, o ≠ some (.str v)
  | .not => ∀ v ∈ b.2, o ≠ some (.str v)
theorem valsOf_mem {v : Verb} {rs : List Row} {x : Str} : x ∈ valsOf v rs ↔ ∃ r ∈ rs, r.vb = v ∧ r.vl = x := by
  unfold valsOf
  simp only [List.mem_map, List.mem_filter, decide_eq_true_eq]
  exact ⟨fun ⟨r, ⟨h1, h2⟩, h3⟩ => ⟨r, h1, h2, h3⟩, fun ⟨r, h1, h2, h3⟩ => ⟨r, ⟨h1, h2⟩, h3⟩⟩
theorem anyV_iff {v : Verb} {rs : List Row} : anyV v rs = true ↔ ∃ r ∈ rs, r.vb = v := by
  unfold anyV
  simp only [List.any_eq_true, decide_eq_true_eq]
theorem fulB_is {r : Row} {o : Option V} (h : r.vb = .is) : fulB r o = true ↔ o = some (.str r.vl) := by unfold fulB; rw [h]; exact decide_eq_true_iff
theorem fulB_not {r : Row} {o : Option V} (h : r.vb = .not) : fulB r o = true ↔ o ≠ some (.str r.vl) := by unfold fulB; rw [h]; simp
theorem fulB_there {r : Row} {o : Option V} (h : r.vb = .there) : fulB r o = true ↔ o.isSome = true := by unfold fulB; rw [h]
theorem fulB_missing {r : Row} {o : Option V} (h : r.vb = .missing) : fulB r o = true ↔ o = none := by unfold fulB; rw [h]; cases o <;> simp
/-- all that is asked of one name at once -/
structure Asks (rs : List Row) (o : Option V) : Prop where
  is_ : ∀ x ∈ valsOf .is rs, o = some (.str x)
  not_ : ∀ x ∈ valsOf .not rs, o ≠ some (.str x)
  there_ : anyV .there rs = true → o.isSome = true
  gone : anyV .missing rs = true → o = none
theorem asks_iff {rs : List Row} {o : Option V} : (∀ r ∈ rs, fulB r o = true) ↔ Asks rs o := by
  constructor
  · intro h
    refine ⟨fun x hx => ?_, fun x hx => ?_, fun hx => ?_, fun hx => ?_⟩
    · obtain ⟨r, h1, h2, rfl⟩ := valsOf_mem.mp hx; exact (fulB_is h2).mp (h r h1)
    · obtain ⟨r, h1, h2, rfl⟩ := valsOf_mem.mp hx; exact (fulB_not h2).mp (h r h1)
    · obtain ⟨r, h1, h2⟩ := anyV_iff.mp hx; exact (fulB_there h2).mp (h r h1)
    · obtain ⟨r, h1, h2⟩ := anyV_iff.mp hx; exact (fulB_missing h2).mp (h r h1)
  · intro h r hr
    cases e : r.vb with
    | is => exact (fulB_is e).mpr (h.is_ _ (valsOf_mem.mpr ⟨r, hr, e, rfl⟩))
    | not => exact (fulB_not e).mpr (h.not_ _ (valsOf_mem.mpr ⟨r, hr, e, rfl⟩))
    | there => exact (fulB_there e).mpr (h.there_ (anyV_iff.mpr ⟨r, hr, e⟩))
    | missing => exact (fulB_missing e).mpr (h.gone (anyV_iff.mpr ⟨r, hr, e⟩))
theorem sortU_nil : sortU [] = [] := List.eq_nil_of_length_eq_zero (Nat.le_zero.mp (sortU_len []))
theorem empty_sortU {xs : List Str} : (sortU xs).isEmpty = true ↔ xs = [] := by
  rw [List.isEmpty_iff]
  constructor
  · intro h
    cases xs with
    | nil => rfl
    | cons x r => have := (sortU_mem (xs := x :: r)).mpr (List.mem_cons_self); rw [h] at this; cases this
  · rintro rfl; exact sortU_nil
theorem bound_some {rs : List Row} {b : Bd} (h : boundOf rs = some b) (o : Option V) : Asks rs o ↔ satB b o := by
  unfold boundOf at h
  split at h
  · rename_i hm
    split at h
    · cases h
    · rename_i hn
      cases h
      simp only [Bool.or_eq_true, Bool.not_eq_true', not_or, Bool.not_eq_false, Bool.not_eq_true] at hn
      have e := empty_sortU.mp hn.1
      constructor
      · exact fun a => a.gone hm
      · intro s
        have s : o = none := s
        subst s
        exact ⟨fun x hx => (by rw [e] at hx; cases hx), fun x _ => by simp, fun z => (by rw [hn.2] at z; cases z), fun _ => rfl⟩
  · rename_i hm
    split at h
    · rename_i ha
      split at h
      · cases h
      · rename_i hn
        cases h
        simp only [Bool.or_eq_true, decide_eq_true_eq, not_or, Nat.not_lt] at hn
        obtain ⟨x, ex⟩ : ∃ x, sortU (valsOf .is rs) = [x] := by
          cases q : sortU (valsOf .is rs) with
          | nil => rw [q] at ha; cases ha
          | cons x r =>
            rw [q] at hn
            cases r with
            | nil => exact ⟨x, rfl⟩
            | cons y r => simp only [List.length_cons] at hn; omega
        have hd : (sortU (valsOf .is rs)).headD "" = x := by rw [ex]; rfl
        have m : ∀ y, y ∈ valsOf .is rs ↔ y = x := fun y => by rw [← sortU_mem, ex, List.mem_singleton]
        rw [hd] at hn
        constructor
        · intro a
          show o = some (.str ((sortU (valsOf .is rs)).headD ""))
          rw [hd]
          exact a.is_ x ((m x).mpr rfl)
        · intro s
          have s : o = some (.str ((sortU (valsOf .is rs)).headD "")) := s
          rw [hd] at s
          subst s
          refine ⟨fun y hy => by rw [(m y).mp hy], fun y hy => ?_, fun _ => rfl, fun z => absurd z hm⟩
          intro z
          injection z with z
          injection z with z
          exact hn.2 (z ▸ sortU_mem.mpr hy)
    · rename_i ha
      cases h
      have e := empty_sortU.mp (by simpa using ha)
      by_cases ht : anyV .there rs = true
      · rw [if_pos ht]
        constructor
        · exact fun a => ⟨a.there_ ht, fun v hv => a.not_ v (sortU_mem.mp hv)⟩
        · exact fun s => ⟨fun x hx => (by rw [e] at hx; cases hx), fun x hx => s.2 x (sortU_mem.mpr hx), fun _ => s.1, fun z => absurd z hm⟩
      · rw [if_neg ht]
        constructor
        · exact fun a v hv => a.not_ v (sortU_mem.mp hv)
        · exact fun s => ⟨fun x hx => (by rw [e] at hx; cases hx), fun x hx => s x (sortU_mem.mpr hx), fun z => absurd z ht, fun z => absurd z hm⟩
theorem bound_none {rs : List Row} (h : boundOf rs = none) (o : Option V) : ¬ Asks rs o := by
  intro a
  unfold boundOf at h
  split at h
  · rename_i hm
    have g := a.gone hm
    subst g
    split at h
    · rename_i hn
      rcases Bool.or_eq_true_iff.mp hn with q | q
      · cases e : valsOf .is rs with
        | nil => rw [e, sortU_nil] at q; exact absurd q (by decide)
        | cons x r => exact nomatch a.is_ x (by rw [e]; exact List.mem_cons_self)
      · exact nomatch a.there_ q
    · cases h
  · split at h
    · rename_i ha
      split at h
      · rename_i hn
        cases q : sortU (valsOf .is rs) with
        | nil => rw [q] at ha; cases ha
        | cons x r =>
          rw [q] at hn
          have hx := a.is_ x (sortU_mem.mp (by rw [q]; exact List.mem_cons_self))
          rcases Bool.or_eq_true_iff.mp hn with z | z
          · cases r with
            | nil => exact absurd (of_decide_eq_true z) (by show ¬ 1 < 1; decide)
            | cons y r =>
              have hy := a.is_ y (sortU_mem.mp (by rw [q]; exact List.mem_cons_of_mem _ List.mem_cons_self))
              have nd := sortU_once (valsOf .is rs)
              rw [q, List.nodup_cons] at nd
              rw [hx] at hy
              injection hy with hy
              injection hy with hy
              exact nd.1 (hy ▸ List.mem_cons_self)
          · exact a.not_ x (sortU_mem.mp (of_decide_eq_true z)) hx
      · cases h
    · cases h
theorem bound_vals {rs : List Row} {b : Bd} (h : boundOf rs = some b) : b.2.length ≤ rs.length ∧ (b.1 = .is → b.2 ≠ []) ∧ ∀ v ∈ b.2, ∃ r ∈ rs, r.vl = v := by
  have l : ∀ v, (sortU (valsOf v rs)).length ≤ rs.length := fun v => Nat.le_trans (sortU_len _) (valsOf_len _ _)
  have m : ∀ v x, x ∈ sortU (valsOf v rs) → ∃ r ∈ rs, r.vl = x := fun v x hx => by
    obtain ⟨r, h1, _, h2⟩ := valsOf_mem.mp (sortU_mem.mp hx); exact ⟨r, h1, h2⟩
  unfold boundOf at h
  split at h
  · split at h
    · cases h
    · cases h; exact ⟨Nat.zero_le _, fun z => (nomatch z), fun v hv => (nomatch hv)⟩
  · split at h
    · rename_i ha
      split at h
      · cases h
      · cases h; exact ⟨l .is, fun _ z => (by rw [show sortU (valsOf .is rs) = [] from z] at ha; cases ha), m .is⟩
    · cases h
      exact ⟨l .not, fun z => (by dsimp only at z; split at z <;> cases z), m .not⟩
theorem pick_sat {b : Bd} (h : b.2.length ≤ 26) : (needV b.1 = true → satB b (some (.str (pickT b)))) ∧ (needV b.1 = false → satB b none) := by
  obtain ⟨v, vals⟩ := b
  obtain ⟨c, cs, _, e, _, nc⟩ := free_some h
  cases v with
  | is => exact ⟨fun _ => rfl, fun z => nomatch z⟩
  | not => exact ⟨fun z => (nomatch z), fun _ v _ => by simp⟩
  | there => exact ⟨fun _ => ⟨rfl, fun v hv z => nc (by injection z with z; injection z with z; have z : freeT vals = v := z; rw [← e]; show freeT vals ∈ vals; rw [z]; exact hv)⟩, fun z => nomatch z⟩
  | missing => exact ⟨fun z => (nomatch z), fun _ => rfl⟩
theorem need_some {b : Bd} {o : Option V} (n : needV b.1 = true) (s : satB b o) : o.isSome = true := by
  obtain ⟨v, vals⟩ := b
  cases v with
  | is => have s : o = _ := s; rw [s]; rfl
  | not => exact nomatch n
  | there => exact s.1
  | missing => exact nomatch n
/-! ### bounds by names: the labels that they give fulfil the rows, and rows without bounds are fulfilled by nothing -/
theorem isB_mem {rs : List Row} {bs : List (Str × Bd)} (h : IsB rs bs) {r : Row} (hr : r ∈ rs) : ∃ b ∈ bs, b.1 = r.nm := by
  have : r.nm ∈ bs.map (·.1) := by rw [h.1]; exact sortU_mem.mpr (List.mem_map_of_mem hr)
  obtain ⟨b, hb, e⟩ := List.mem_map.mp this
  exact ⟨b, hb, e⟩
theorem isB_once {rs : List Row} {bs : List (Str × Bd)} (h : IsB rs bs) : (bs.map (·.1)).Nodup := by rw [h.1]; exact sortU_once _
theorem isB_vals {rs : List Row} {bs : List (Str × Bd)} (h : IsB rs bs) {b : Str × Bd} (hb : b ∈ bs) : b.2.2.length ≤ rs.length ∧ (b.2.1 = .is → b.2.2 ≠ []) ∧ ∀ v ∈ b.2.2, ∃ r ∈ rs, r.vl = v := by
  obtain ⟨h1, h2, h3⟩ := bound_vals (h.2 b hb)
  refine ⟨Nat.le_trans h1 (ownR_len _ _), h2, fun v hv => ?_⟩
  obtain ⟨r, hr, e⟩ := h3 v hv
  exact ⟨r, (List.mem_filter.mp hr).1, e⟩
theorem labelsF_names (bs : List (Str × Bd)) : (labelsF bs).map (·.1) = neededL bs := by unfold labelsF neededL; rw [List.map_map]; rfl
theorem labelsF_once {bs : List (Str × Bd)} (h : (bs.map (·.1)).Nodup) : ((labelsF bs).map (·.1)).Nodup := by
  rw [labelsF_names]; exact List.Sublist.nodup (List.Sublist.map _ List.filter_sublist) h
theorem look_labels {bs : List (Str × Bd)} (nd : (bs.map (·.1)).Nodup) {b : Str × Bd} (hb : b ∈ bs) : look (labelsF bs) b.1 = if needV b.2.1 = true then some (.str (pickT b.2)) else none := by
  by_cases e : needV b.2.1 = true
  · rw [if_pos e]
    exact look_mem (p := (b.1, pickT b.2)) (labelsF_once nd) (List.mem_map_of_mem (f := fun b : Str × Bd => (b.1, pickT b.2)) (List.mem_filter.mpr ⟨hb, e⟩))
  · rw [if_neg e]
    refine look_none ?_
    rw [labelsF_names]
    intro z
    obtain ⟨c, hc, ec⟩ := List.mem_map.mp z
    obtain ⟨c1, c2⟩ := List.mem_filter.mp hc
    obtain ⟨i, hi⟩ := List.mem_iff_getElem?.mp hb
    obtain ⟨j, hj⟩ := List.mem_iff_getElem?.mp c1
    have e1 : (bs.map (·.1))[i]? = some b.1 := by rw [List.getElem?_map, hi]; rfl
    have e2 : (bs.map (·.1))[j]? = some b.1 := by rw [List.getElem?_map, hj]; exact congrArg some ec
    have ij := (List.getElem?_inj (lt_at e1) nd).mp (e1.trans e2.symm)
    subst ij
    rw [hi] at hj
    cases hj
    exact e c2
theorem asks_own {rs : List Row} {kvs : List (Str × Str)} : fulAll rs kvs = true ↔ ∀ n ∈ rs.map (·.nm), Asks (ownR rs n) (look kvs n) := by
  unfold fulAll
  rw [List.all_eq_true]
  constructor
  · intro h n _
    refine asks_iff.mp fun r hr => ?_
    obtain ⟨h1, h2⟩ := List.mem_filter.mp hr
    have := h r h1
    rw [of_decide_eq_true h2] at this
    exact this
  · intro h r hr
    exact asks_iff.mpr (h r.nm (List.mem_map_of_mem hr)) r (List.mem_filter.mpr ⟨hr, decide_eq_true rfl⟩)
theorem labels_ful {rs : List Row} {bs : List (Str × Bd)} (h : IsB rs bs) (few : rs.length ≤ 26) : fulAll rs (labelsF bs) = true := by
  refine asks_own.mpr fun n hn => ?_
  obtain ⟨r, hr, rfl⟩ := List.mem_map.mp hn
  obtain ⟨b, hb, e⟩ := isB_mem h hr
  rw [← e, bound_some (h.2 b hb), look_labels (isB_once h) hb]
  have p := pick_sat (b := b.2) (Nat.le_trans (isB_vals h hb).1 few)
  by_cases z : needV b.2.1 = true
  · rw [if_pos z]; exact p.1 z
  · rw [if_neg z]; exact p.2 (by simpa using z)
theorem none_ful {rs : List Row} (h : NoB rs) {kvs : List (Str × Str)} (few : kvs.length ≤ 8) : fulAll rs kvs = false := by
  cases q : fulAll rs kvs with
  | false => rfl
  | true =>
    exfalso
    have a := asks_own.mp q
    rcases h with ⟨n, hn, e⟩ | ⟨bs, hb, big⟩
    · exact bound_none e _ (a n hn)
    · have sub : ∀ n ∈ neededL bs, n ∈ kvs.map (·.1) := fun n hn => by
        obtain ⟨b, hb', rfl⟩ := List.mem_map.mp hn
        obtain ⟨b1, b2⟩ := List.mem_filter.mp hb'
        have hm : b.1 ∈ rs.map (·.nm) := sortU_mem.mp (by rw [← hb.1]; exact List.mem_map_of_mem b1)
        have s := need_some b2 ((bound_some (hb.2 b b1) _).mp (a b.1 hm))
        cases z : decide (b.1 ∈ kvs.map (·.1)) with
        | true => exact of_decide_eq_true z
        | false => rw [look_none (of_decide_eq_false z)] at s; cases s
      have nd : (neededL bs).Nodup := List.Sublist.nodup (List.Sublist.map _ List.filter_sublist) (isB_once hb)
      have := within_len nd sub
      rw [List.length_map] at this
      omega
/-- name and value are of the right form -/
def RowN (r : Row) : Prop := userB r.nm = true ∧ lvalB r.vl = true ∧ r.nm.length ≤ 50 ∧ r.vl.length ≤ 50
theorem labels_ok {rs : List Row} {bs : List (Str × Bd)} (h : IsB rs bs) (few : rs.length ≤ 26) (need : (neededL bs).length ≤ 8) (all : ∀ r ∈ rs, RowN r) : LabOk (labelsF bs) := by
  refine ⟨?_, fun p hp => ?_, labelsF_once (isB_once h)⟩
  · have : (labelsF bs).length = (neededL bs).length := by rw [← labelsF_names, List.length_map]
    omega
  · obtain ⟨b, hb, rfl⟩ := List.mem_map.mp hp
    obtain ⟨b1, b2⟩ := List.mem_filter.mp hb
    have hm : b.1 ∈ rs.map (·.nm) := sortU_mem.mp (by rw [← h.1]; exact List.mem_map_of_mem b1)
    obtain ⟨r, hr, er⟩ := List.mem_map.mp hm
    obtain ⟨f1, _, f3, _⟩ := all r hr
    obtain ⟨v1, v2, v3⟩ := isB_vals h b1
    have val : lvalB (pickT b.2) = true ∧ (pickT b.2).length ≤ 100 := by
      unfold pickT
      split
      · rename_i ev
        cases q : b.2.2 with
        | nil => exact absurd q (v2 ev)
        | cons x xs =>
          obtain ⟨r', hr', e'⟩ := v3 x (by rw [q]; exact List.mem_cons_self)
          obtain ⟨_, f2, _, f4⟩ := all r' hr'
          show lvalB x = true ∧ x.length ≤ 100
          rw [← e']
          exact ⟨f2, Nat.le_trans f4 (by decide)⟩
      · obtain ⟨c, cs, _, e, hc, _⟩ := free_some (Nat.le_trans v1 few)
        have q := List.all_eq_true.mp cands_ok c hc
        rw [e]
        exact ⟨(Bool.and_eq_true_iff.mp q).1, Nat.le_trans (of_decide_eq_true (Bool.and_eq_true_iff.mp q).2) (by decide)⟩
    show userB b.1 = true ∧ lvalB (pickT b.2) = true ∧ b.1.length ≤ 100 ∧ (pickT b.2).length ≤ 100
    rw [← er]
    exact ⟨f1, val.1, Nat.le_trans f3 (by decide), val.2⟩
theorem fulAll_app (r1 r2 : List Row) (kvs : List (Str × Str)) : fulAll (r1 ++ r2) kvs = (fulAll r1 kvs && fulAll r2 kvs) := by unfold fulAll; rw [List.all_append]
/-- the opposite of a requirement -/
def oppV : Verb → Verb
  | .is => .not
  | .not => .is
  | .there => .missing
  | .missing => .there
def oppR (r : Row) : Row := ⟨r.nm, oppV r.vb, r.vl⟩
theorem opp_ful (r : Row) (o : Option V) : fulB (oppR r) o = !fulB r o := by
  unfold fulB oppR
  cases r.vb <;> simp [oppV]
theorem not_ful {rs : List Row} {kvs : List (Str × Str)} : fulAll rs kvs = false ↔ ∃ r ∈ rs, fulAll [oppR r] kvs = true := by
  unfold fulAll
  rw [List.all_eq_false]
  constructor
  · rintro ⟨r, hr, h⟩
    exact ⟨r, hr, by rw [List.all_cons, List.all_nil, opp_ful]; simp only [Bool.not_eq_true] at h; show (!fulB r (look kvs r.nm) && true) = true; rw [h]; rfl⟩
  · rintro ⟨r, hr, h⟩
    refine ⟨r, hr, fun z => ?_⟩
    rw [List.all_cons, List.all_nil, opp_ful] at h
    have h : (!fulB r (look kvs r.nm) && true) = true := h
    rw [z] at h
    cases h

/-! ### meets, covers -/
theorem paired_join {α β : Type} {F : α → β → Prop} : ∀ {xs : List α} {ys : List β} {xs' : List α} {ys' : List β}, Paired F xs ys → Paired F xs' ys' → Paired F (xs ++ xs') (ys ++ ys')
  | _, _, _, _, .nil, h => h
  | _, _, _, _, .cons r t, h => .cons r (paired_join t h)
/-- two lists of rows put together in a new list -/
theorem rows_cat {H : Hp} {L1 L2 L3 : Addr} {r1 r2 : List Row} {p1 p2 : List Addr} (h1 : Paired (RowAt H) p1 r1) (h2 : Paired (RowAt H) p2 r2) (n : H L3 = none) : RowsAt (upd H L3 (.lst (p1.map V.ref ++ p2.map V.ref))) L3 (r1 ++ r2) :=
  ⟨p1 ++ p2, by rw [upd_same, List.map_append], Paired.mono (fun _ _ q => Same.new n _ _ q) (paired_join h1 h2)⟩
def sp_meets (K : PySem.W.Frag) : Sp := fun vs H Q _ => ∃ (r1 r2 : List Row), vs = [.str (selT r1), .str (selT r2)] ∧ Rows8 r1 ∧ Rows8 r2 ∧ (NoB (r1 ++ r2) → ∀ H', Same H H' → Q .non H') ∧
  ∀ (bs : List (Str × Bd)) (p : Addr) (H' : Hp), IsB (r1 ++ r2) bs → (neededL bs).length ≤ 8 → Same H H' → H p = none → H' p = some (.dK (labD (labelsF bs))) → Q (.ref p) H'
theorem ok_meets {P : Program} {w : World} {K : PySem.W.Frag} {mg : Str → Option Value} {base : Heap} {fd : FuncData} (T : Txt K mg w) (F : FnP K "meets" s_meets [] fd) : FnOk P w K mg base CX0 5 (He.ga K "meets") fd ps_meets (sp_meets K) := by
  obtain ⟨fd_bounds_of, F_bounds_of⟩ := T.d_bounds_of
  have G_bounds_of := ok_bounds_of (P := P) (w := w) (base := base) T F_bounds_of
  have k_bounds_of := F_bounds_of.kp
  have b_bounds_of := bi_bounds_of F_bounds_of
  obtain ⟨fd_labels_for, F_labels_for⟩ := T.d_labels_for
  have G_labels_for := ok_labels_for (P := P) (w := w) (base := base) T F_labels_for
  have k_labels_for := F_labels_for.kp
  have b_labels_for := bi_labels_for F_labels_for
  obtain ⟨fd_requirements, F_requirements⟩ := T.d_requirements
  have G_requirements := ok_requirements (P := P) (w := w) (base := base) T F_requirements
  have k_requirements := F_requirements.kp
  have b_requirements := bi_requirements F_requirements
  refine F.ok sc_meets (fun vs H Q E h => ?len) (fun cdv A outer s H vs Q E hr h => ?body)
  case len => obtain ⟨r1, r2, rfl, h1, h2, k0, k1⟩ := h; rfl
  case body =>
  obtain ⟨r1, r2, rfl, h1, h2, k0, k1⟩ := h
  have hu := hu_of hr
  refine ⟨_, PSs.nox (pss_cons (ps_set (i := 2) sc_meets.nd rfl (Or.inl rfl) (pe_call G_bounds_of (hr.mono (by first | decide | omega)) rfl T.g_bounds_of k_bounds_of b_bounds_of .nil pass0 (pa_cons (pe_op op_cat (pe_call G_requirements (hr.mono (by first | decide | omega)) rfl T.g_requirements k_requirements b_requirements .nil pass0 (pa_cons (pv 0) pa_nil)) (pe_call G_requirements (hr.mono (by first | decide | omega)) rfl T.g_requirements k_requirements b_requirements .nil pass0 (pa_cons (pv 1) pa_nil))) pa_nil)))
    (pss_one (ps_ret (pe_ifExp (pt_cmpR op_isN (pv 2) pe_non (nomark _)) pe_non (pe_call G_labels_for (hr.mono (by first | decide | omega)) rfl T.g_labels_for k_labels_for b_labels_for .nil pass0 (pa_cons (pv 2) pa_nil)))))), ?_⟩
  refine ⟨_, rfl, r1, rfl, h1, fun L1 H1 S1 n1 R1 => ⟨_, rfl, r2, rfl, h2, fun L2 H2 S2 n2 R2 => ?_⟩⟩
  obtain ⟨p1, g1, q1⟩ := rows_same S2 R1
  obtain ⟨p2, g2, q2⟩ := R2
  have l1 := paired_len q1
  have l2 := paired_len q2
  have few : (r1 ++ r2).length ≤ 16 := by rw [List.length_append]; have := h1.1; have := h2.1; omega
  refine ⟨L1, L2, _, _, rfl, rfl, g1, g2, smallN (by rw [List.length_map, List.length_map, l1, l2]; rw [List.length_append] at few; omega), fun L3 n3 => ?_⟩
  have S3 := S1.trans (S2.trans (Same.new (u := .lst (p1.map V.ref ++ p2.map V.ref)) n3))
  refine ⟨L3, r1 ++ r2, rfl, rows_cat (L1 := L1) (L2 := L2) q1 q2 n3, by omega, fun nob H4 S4 => ?_, fun bs d H4 isb need S4 free at_ => ?_⟩
  · exact ⟨_, rfl, rfl, _, rfl, iteT (k0 nob H4 (S3.trans S4))⟩
  · refine ⟨_, rfl, rfl, _, rfl, iteF ⟨_, rfl, d, bs, rfl, at_, ?_, isB_once isb, fun b hb => ?_, fun p H5 S5 fp gp => ?_⟩⟩
    · have := congrArg List.length isb.1
      have l := sortU_len ((r1 ++ r2).map (·.nm))
      rw [List.length_map] at this l
      omega
    · obtain ⟨a, b, _⟩ := isB_vals isb hb
      exact ⟨by omega, b⟩
    · exact k1 bs p H5 isb need (S3.trans (S4.trans S5)) (S3.free (S4.free fp)) gp
def sp_covers (K : PySem.W.Frag) : Sp := fun vs H Q _ => ∃ (r1 r2 : List Row), vs = [.str (selT r1), .str (selT r2)] ∧ Rows8 r1 ∧ Rows8 r2 ∧ ((∀ r ∈ r1, NoB (r2 ++ [oppR r])) → ∀ H', Same H H' → Q .non H') ∧
  ∀ (r : Row) (bs : List (Str × Bd)) (p : Addr) (H' : Hp), r ∈ r1 → IsB (r2 ++ [oppR r]) bs → (neededL bs).length ≤ 8 → Same H H' → H p = none → H' p = some (.dK (labD (labelsF bs))) → Q (.ref p) H'
theorem ok_covers {P : Program} {w : World} {K : PySem.W.Frag} {mg : Str → Option Value} {base : Heap} {fd : FuncData} (T : Txt K mg w) (F : FnP K "covers" s_covers [] fd) : FnOk P w K mg base CX0 5 (He.ga K "covers") fd ps_covers (sp_covers K) := by
  obtain ⟨fd_requirements, F_requirements⟩ := T.d_requirements
  have G_requirements := ok_requirements (P := P) (w := w) (base := base) T F_requirements
  have k_requirements := F_requirements.kp
  have b_requirements := bi_requirements F_requirements
  obtain ⟨fd_bounds_of, F_bounds_of⟩ := T.d_bounds_of
  have G_bounds_of := ok_bounds_of (P := P) (w := w) (base := base) T F_bounds_of
  have k_bounds_of := F_bounds_of.kp
  have b_bounds_of := bi_bounds_of F_bounds_of
  obtain ⟨fd_labels_for, F_labels_for⟩ := T.d_labels_for
  have G_labels_for := ok_labels_for (P := P) (w := w) (base := base) T F_labels_for
  have k_labels_for := F_labels_for.kp
  have b_labels_for := bi_labels_for F_labels_for
  refine F.ok sc_covers (fun vs H Q E h => ?len) (fun cdv A outer s H vs Q E hr h => ?body)
  case len => obtain ⟨r1, r2, rfl, h1, h2, k0, k1⟩ := h; rfl
  case body =>
  obtain ⟨r1, r2, rfl, h1, h2, k0, k1⟩ := h
  have hu := hu_of hr
  refine ⟨_, PSs.nox (pss_cons (ps_par (i := 2) (j := 3) (by rfl) sc_covers.nd rfl rfl (by decide) rfl rfl (pa_cons (pe_call G_requirements (hr.mono (by first | decide | omega)) rfl T.g_requirements k_requirements b_requirements .nil pass0 (pa_cons (pv 0) pa_nil)) (pa_cons (pe_call G_requirements (hr.mono (by first | decide | omega)) rfl T.g_requirements k_requirements b_requirements .nil pass0 (pa_cons (pv 1) pa_nil)) pa_nil)) (by rfl))
    (pss_cons (ps_for PassesOwn.never rfl (pi_list (pv 2)) (pg_tup rfl (pgs_cons (pg_name (i := 4) sc_covers.nd rfl (Or.inl rfl)) (pgs_cons (pg_name (i := 5) sc_covers.nd rfl (Or.inl rfl)) (pgs_cons (pg_name (i := 6) sc_covers.nd rfl (Or.inl rfl)) pgs_nil))))
      (pss_cons (ps_set (i := 7) sc_covers.nd rfl (Or.inl rfl) (pe_call G_bounds_of (hr.mono (by first | decide | omega)) rfl T.g_bounds_of k_bounds_of b_bounds_of .nil pass0 (pa_cons (pe_op op_cat (pv 3) (pe_lst (pa_cons (pe_tup (pa_cons (pv 4) (pa_cons (pe_ix ix_kdict (pe_glob (v := .ref (He.ga K "OPPOSITE")) rfl T.g_OPPOSITE rfl) (pv 5) (fun _ _ => rfl)) (pa_cons (pv 6) pa_nil)))) pa_nil))) pa_nil)))
        (pss_one (ps_if (pt_cmpR op_notN (pv 7) pe_non (nomark _)) (pss_one (ps_ret (pe_call G_labels_for (hr.mono (by first | decide | omega)) rfl T.g_labels_for k_labels_for b_labels_for .nil pass0 (pa_cons (pv 7) pa_nil)))) pss_nil))))
    (pss_one (ps_ret pe_non)))), ?_⟩
  have O := exT T.ex
  have opp : ∀ v : Verb, KDct K w (He.ga K "OPPOSITE") (vT v) (.str (vT (oppV v))) := fun v => by
    cases v with
    | is => exact kdct_of T.kd_OPPOSITE O.val_OPPOSITE (q := ("is", .str "not")) (by simp)
    | not => exact kdct_of T.kd_OPPOSITE O.val_OPPOSITE (q := ("not", .str "is")) (by simp)
    | there => exact kdct_of T.kd_OPPOSITE O.val_OPPOSITE (q := ("there", .str "missing")) (by simp)
    | missing => exact kdct_of T.kd_OPPOSITE O.val_OPPOSITE (q := ("missing", .str "there")) (by simp)
  refine ⟨_, rfl, r1, rfl, h1, fun L1 H1 S1 n1 R1 => ⟨_, rfl, r2, rfl, h2, fun L2 H2 S2 n2 R2 => ?_⟩⟩
  obtain ⟨p1, g1, q1⟩ := rows_same S2 R1
  obtain ⟨p2, g2, q2⟩ := R2
  have l1 := paired_len q1
  have l2 := paired_len q2
  have SA := S1.trans S2
  have few1 := h1.1
  have few2 := h2.1
  refine ⟨_, _, rfl, ?_⟩
  refine ⟨_, rfl, L1, rfl, ⟨_, SqL.of g1⟩, for_list (K := K) (a := L1) (xs := p1.map V.ref) (fun i σ H' => ∃ (v4 v5 v6 v7 : Option V), σ = [some (.str (selT r1)), some (.str (selT r2)), some (.ref L1), some (.ref L2), v4, v5, v6, v7] ∧ Same H2 H' ∧ ∀ r ∈ r1.take i, NoB (r2 ++ [oppR r]))
    ⟨_, _, _, _, rfl, Same.refl _, by simp⟩ (fun i σ H' _ ⟨_, _, _, _, _, S, _⟩ => SqL.of (S _ _ g1)) ?_ ?_⟩
  · rintro i x σ H3 hx ⟨v4, v5, v6, v7, rfl, S3, nob⟩
    rw [List.getElem?_map] at hx
    obtain ⟨p, ep, rfl⟩ := Option.map_eq_some_iff.mp hx
    obtain ⟨r, er, hr1⟩ := paired_at q1 ep
    have hm := mem_at er
    refine ⟨p, _, rfl, SqT.of (S3 _ _ hr1), rfl, _, _, rfl, _, _, rfl, _, _, rfl, rfl, ?_⟩
    refine ⟨_, rfl, _, rfl, _, rfl, _, _, _, rfl, rfl, opp r.vb, _, rfl, smallN (by show 3 ≤ 1000; decide), fun pt qt => ⟨smallN (by show 1 ≤ 1000; decide), fun pl ql => ?_⟩⟩
    have St := Same.new (u := .tup [.str r.nm, .str (vT (oppV r.vb)), .str r.vl]) qt
    have gt : RowAt (upd H3 pt (.tup [.str r.nm, .str (vT (oppV r.vb)), .str r.vl])) pt (oppR r) := upd_same
    generalize upd H3 pt (.tup [.str r.nm, .str (vT (oppV r.vb)), .str r.vl]) = H4 at St gt ql ⊢
    have Sl := Same.new (u := .lst [.ref pt]) ql
    have gl : (upd H4 pl (.lst [.ref pt])) pl = some (.lst ([pt].map V.ref)) := upd_same
    generalize upd H4 pl (.lst [.ref pt]) = H5 at Sl gl ⊢
    have S35 := St.trans Sl
    have S25 := S3.trans S35
    refine ⟨L2, pl, _, _, rfl, rfl, S25 _ _ g2, gl, smallN (by rw [List.length_map, l2]; show _ + 1 ≤ 1000; omega), fun pc qc => ?_⟩
    have hq : Paired (RowAt H5) [pt] [oppR r] := .cons (Sl _ _ gt) .nil
    have R := rows_cat (L1 := L2) (L2 := pl) (Paired.mono (fun (a : Addr) (c : Row) (q : RowAt H2 a c) => (S25 _ _ q : RowAt H5 a c)) q2) hq qc
    have Sc := Same.new (u := .lst (p2.map V.ref ++ [pt].map V.ref)) qc
    have len : (r2 ++ [oppR r]).length ≤ 9 := by rw [List.length_append]; show _ + 1 ≤ 9; omega
    refine ⟨pc, r2 ++ [oppR r], rfl, R, by omega, fun no H6 S6 => ?_, fun bs d H6 isb need S6 free at_ => ?_⟩
    · refine ⟨_, rfl, rfl, _, rfl, iteF ⟨_, _, _, _, rfl, S3.trans (S35.trans (Sc.trans S6)), fun c hc => ?_⟩⟩
      rw [get_take er] at hc
      rcases List.mem_append.mp hc with hc | hc
      · exact nob c hc
      · rw [List.mem_singleton.mp hc]; exact no
    · refine ⟨_, rfl, rfl, _, rfl, iteT ⟨_, rfl, d, bs, rfl, at_, ?_, isB_once isb, fun b hb => ?_, fun p H7 S7 fp gp => ?_⟩⟩
      · have := congrArg List.length isb.1
        have l := sortU_len ((r2 ++ [oppR r]).map (·.nm))
        rw [List.length_map] at this l
        omega
      · obtain ⟨a, b, _⟩ := isB_vals isb hb
        exact ⟨by omega, b⟩
      · have S27 := SA.trans (S25.trans (Sc.trans S6))
        exact k1 r bs p H7 hm isb need (S27.trans S7) (S27.free fp) gp
  · rintro σ H3 ⟨v4, v5, v6, v7, rfl, S3, nob⟩
    rw [List.length_map, l1, List.take_length] at nob
    exact k0 nob H3 (SA.trans S3)

/-! ### the law's own draws -/
theorem row_mem {n v : Str} (hn : n ∈ names4) (hv : v ∈ vals8) : (⟨n, .is, v⟩ : Row) ∈ allRows ∧ (⟨n, .not, v⟩ : Row) ∈ allRows ∧ (⟨n, .there, ""⟩ : Row) ∈ allRows ∧ (⟨n, .missing, ""⟩ : Row) ∈ allRows := by
  refine ⟨?_, ?_, ?_, ?_⟩ <;> refine List.mem_flatMap.mpr ⟨n, hn, ?_⟩
  · exact List.mem_append_left _ (List.mem_flatMap.mpr ⟨v, hv, by simp⟩)
  · exact List.mem_append_left _ (List.mem_flatMap.mpr ⟨v, hv, by simp⟩)
  · exact List.mem_append_right _ (by simp)
  · exact List.mem_append_right _ (by simp)
theorem x24 : strRep "x" 24 = ("xxxxxxxxxxxxxxxxxxxxxxxx" : Str) := by decide +kernel
def sp__law_value (K : PySem.W.Frag) : Sp := fun vs H Q _ => ∃ (a : Addr) (n : Nat), vs = [.ref a] ∧ WellAt H a n ∧ n < 900000 ∧ ∀ (z : Str) (H' : Hp) (n' : Nat), z ∈ vals8 → Keep a H H' → WellAt H' a n' → n' ≤ n + 1 → Q (.str z) H'
theorem ok__law_value {P : Program} {w : World} {K : PySem.W.Frag} {mg : Str → Option Value} {base : Heap} {fd : FuncData} (T : Txt K mg w) (F : FnP K "_law_value" s__law_value [] fd) : FnOk P w K mg base CX0 3 (He.ga K "_law_value") fd ps__law_value (sp__law_value K) := by
  obtain ⟨fd__law_pick, F__law_pick⟩ := T.d__law_pick
  have G__law_pick := ok__law_pick (P := P) (w := w) (base := base) T F__law_pick
  have k__law_pick := F__law_pick.kp
  have b__law_pick := bi__law_pick F__law_pick
  refine F.ok sc__law_value (fun vs H Q E h => ?len) (fun cdv A outer s H vs Q E hr h => ?body)
  case len => obtain ⟨a, n, rfl, hw, hn, k⟩ := h; rfl
  case body =>
  obtain ⟨a, n, rfl, hw, hn, k⟩ := h
  have hu := hu_of hr
  refine ⟨_, PSs.nox (pss_one (ps_ret (pe_call G__law_pick (hr.mono (by first | decide | omega)) rfl T.g__law_pick k__law_pick b__law_pick .nil pass0 (pa_cons (pv 0) (pa_cons (pe_lst (pa_cons pe_str (pa_cons pe_str (pa_cons pe_str (pa_cons pe_str (pa_cons pe_str (pa_cons pe_str (pa_cons pe_str (pa_cons (pe_op op_rep_str pe_str pe_int) (pa_cons pe_str (pa_cons pe_str pa_nil))))))))))) pa_nil))))), ?_⟩
  refine ⟨_, rfl, _, _, rfl, rfl, (by decide), (by decide), (by decide), smallN (by show 10 ≤ 1000; decide), fun p hp => ?_⟩
  have w1 := well_new (u := .lst [.str "", .str "web", .str "db", .str "web", .str "a-1", .str "0", .str "-", .str (strRep "x" 24), .str "a", .str "b"]) hw hp
  refine ⟨a, p, n, _, rfl, w1, by omega, upd_same, well_ne3 hw hp, (by show 0 < 10; decide), (by show 10 ≤ 1000; decide), fun y u n' hy hn' hu' => ?_⟩
  obtain ⟨z, rfl, hz⟩ : ∃ z, y = .str z ∧ z ∈ vals8 := by
    rw [x24] at hy
    obtain ⟨z, hz, rfl⟩ := List.mem_map.mp (show y ∈ (vals8.take 10).map V.str from hy)
    exact ⟨z, rfl, List.mem_of_mem_take hz⟩
  exact k z _ n' hz ((Keep.new hp).trans Keep.at_) (well_upd hu') hn'
/-- some of the names -/
def Names (ns : List Str) : Prop := ns.length ≤ 4 ∧ 0 < ns.length ∧ ns.Nodup ∧ ∀ n ∈ ns, n ∈ names4
def sp__law_requirement (K : PySem.W.Frag) : Sp := fun vs H Q _ => ∃ (a b : Addr) (n : Nat) (ns : List Str), vs = [.ref a, .ref b] ∧ WellAt H a n ∧ n < 800000 ∧ H b = some (.lst (ns.map V.str)) ∧ b ≠ a ∧ Names ns ∧
  ∀ (p : Addr) (r : Row) (H' : Hp) (n' : Nat), r ∈ allRows ∧ r.nm ∈ ns → RowAt H' p r → Keep a H H' → WellAt H' a n' → n' ≤ n + 3 → Q (.ref p) H'
theorem ok__law_requirement {P : Program} {w : World} {K : PySem.W.Frag} {mg : Str → Option Value} {base : Heap} {fd : FuncData} (T : Txt K mg w) (F : FnP K "_law_requirement" s__law_requirement [] fd) : FnOk P w K mg base CX0 4 (He.ga K "_law_requirement") fd ps__law_requirement (sp__law_requirement K) := by
  obtain ⟨fd__law_pick, F__law_pick⟩ := T.d__law_pick
  have G__law_pick := ok__law_pick (P := P) (w := w) (base := base) T F__law_pick
  have k__law_pick := F__law_pick.kp
  have b__law_pick := bi__law_pick F__law_pick
  obtain ⟨fd__law_value, F__law_value⟩ := T.d__law_value
  have G__law_value := ok__law_value (P := P) (w := w) (base := base) T F__law_value
  have k__law_value := F__law_value.kp
  have b__law_value := bi__law_value F__law_value
  refine F.ok sc__law_requirement (fun vs H Q E h => ?len) (fun cdv A outer s H vs Q E hr h => ?body)
  case len => obtain ⟨a, b, n, ns, rfl, hw, hn, hb, nb, hN, k⟩ := h; rfl
  case body =>
  obtain ⟨a, b, n, ns, rfl, hw, hn, hb, nb, hN, k⟩ := h
  have hu := hu_of hr
  refine ⟨_, PSs.nox (pss_cons (ps_par (i := 2) (j := 3) (by rfl) sc__law_requirement.nd rfl rfl (by decide) rfl rfl (pa_cons (pe_call G__law_pick (hr.mono (by first | decide | omega)) rfl T.g__law_pick k__law_pick b__law_pick .nil pass0 (pa_cons (pv 0) (pa_cons (pv 1) pa_nil))) (pa_cons (pe_call G__law_pick (hr.mono (by first | decide | omega)) rfl T.g__law_pick k__law_pick b__law_pick .nil pass0 (pa_cons (pv 0) (pa_cons (pe_lst (pa_cons pe_str (pa_cons pe_str (pa_cons pe_str (pa_cons pe_str (pa_cons pe_str pa_nil)))))) pa_nil))) pa_nil)) (by rfl))
    (pss_one (ps_ret (pe_tup (pa_cons (pv 2) (pa_cons (pv 3) (pa_cons (pe_ifExp (pt_cmpR op_in_seq (pv 3) (pe_tup (pa_cons pe_str (pa_cons pe_str pa_nil))) (by rfl)) (pe_call G__law_value (hr.mono (by first | decide | omega)) rfl T.g__law_value k__law_value b__law_value .nil pass0 (pa_cons (pv 0) pa_nil)) pe_str) pa_nil))))))), ?_⟩
  refine ⟨_, rfl, _, rfl, a, b, n, _, rfl, hw, by omega, hb, nb, (by rw [List.length_map]; exact hN.2.1), (by rw [List.length_map]; have := hN.1; omega), fun y u n1 hy hn1 hu1 => ?_⟩
  obtain ⟨nm, hnm, rfl⟩ := List.mem_map.mp hy
  have w1 := well_upd (H := H) (a := a) hu1
  have K1 : Keep a H (upd H a u) := Keep.at_
  generalize upd H a u = H1 at w1 K1 ⊢
  refine ⟨_, rfl, smallN (by show 5 ≤ 1000; decide), fun p hp => ?_⟩
  have w2 := well_new (u := .lst [.str "is", .str "not", .str "there", .str "missing", .str "not"]) w1 hp
  refine ⟨a, p, n1, _, rfl, w2, by omega, upd_same, well_ne3 w1 hp, (by show 0 < 5; decide), (by show 5 ≤ 1000; decide), fun y u2 n2 hy2 hn2 hu2 => ?_⟩
  obtain ⟨vb, rfl⟩ : ∃ vb, y = .str (vT vb) := by
    simp only [List.mem_cons, List.mem_nil_iff, or_false] at hy2
    rcases hy2 with rfl | rfl | rfl | rfl | rfl
    · exact ⟨.is, rfl⟩
    · exact ⟨.not, rfl⟩
    · exact ⟨.there, rfl⟩
    · exact ⟨.missing, rfl⟩
    · exact ⟨.not, rfl⟩
  have w3 := well_upd (H := upd H1 p (.lst [.str "is", .str "not", .str "there", .str "missing", .str "not"])) (a := a) hu2
  have K3 := K1.trans ((Keep.new (u := .lst [.str "is", .str "not", .str "there", .str "missing", .str "not"]) hp).trans (Keep.at_ (u := u2)))
  generalize upd (upd H1 p (.lst [.str "is", .str "not", .str "there", .str "missing", .str "not"])) a u2 = H3 at w3 K3 ⊢
  refine ⟨_, _, rfl, ?_⟩
  refine ⟨_, rfl, _, rfl, _, rfl, smallN (by show 2 ≤ 1000; decide), fun p4 hp4 => ?_⟩
  have w4 := well_new (u := .tup [.str "is", .str "not"]) w3 hp4
  have K4 := K3.trans (Keep.new (u := .tup [.str "is", .str "not"]) hp4)
  have g4 : (upd H3 p4 (.tup [.str "is", .str "not"])) p4 = _ := upd_same
  generalize upd H3 p4 (.tup [.str "is", .str "not"]) = H4 at w4 K4 g4 ⊢
  refine ⟨p4, _, rfl, .inr (SqT.of g4), rfl, rfl, _, rfl, ?_⟩
  have hm := hN.2.2.2 nm hnm
  have last : ∀ (r : Row) (H5 : Hp) (n5 : Nat), r ∈ allRows ∧ r.nm ∈ ns → Keep a H H5 → WellAt H5 a n5 → n5 ≤ n + 3 → ∀ p5, H5 p5 = none → Q (.ref p5) (upd H5 p5 (.tup (rowV r))) := fun r H5 n5 hr5 K5 w5 hn5 p5 hp5 =>
    k p5 r _ n5 hr5 upd_same (K5.trans (Keep.new hp5)) (well_new w5 hp5) hn5
  cases vb with
  | is => exact iteT ⟨_, rfl, a, n2, rfl, w4, by omega, fun z H5 n5 hz K5 w5 hn5 => ⟨smallN (by show 3 ≤ 1000; decide), last ⟨nm, .is, z⟩ H5 n5 ⟨(row_mem hm hz).1, hnm⟩ (K4.trans K5) w5 (by omega)⟩⟩
  | not => exact iteT ⟨_, rfl, a, n2, rfl, w4, by omega, fun z H5 n5 hz K5 w5 hn5 => ⟨smallN (by show 3 ≤ 1000; decide), last ⟨nm, .not, z⟩ H5 n5 ⟨(row_mem hm hz).2.1, hnm⟩ (K4.trans K5) w5 (by omega)⟩⟩
  | there => exact iteF ⟨smallN (by show 3 ≤ 1000; decide), last ⟨nm, .there, ""⟩ H4 n2 ⟨(row_mem hm (v := "") (by simp [vals8])).2.2.1, hnm⟩ K4 w4 (by omega)⟩
  | missing => exact iteF ⟨smallN (by show 3 ≤ 1000; decide), last ⟨nm, .missing, ""⟩ H4 n2 ⟨(row_mem hm (v := "") (by simp [vals8])).2.2.2, hnm⟩ K4 w4 (by omega)⟩
def sp__law_rows (K : PySem.W.Frag) : Sp := fun vs H Q _ => ∃ (a b : Addr) (n : Nat) (ns : List Str), vs = [.ref a, .ref b, .int 5] ∧ WellAt H a n ∧ n < 700000 ∧ H b = some (.lst (ns.map V.str)) ∧ b ≠ a ∧ Names ns ∧
  ∀ (L : Addr) (rows : List Row) (H' : Hp) (n' : Nat), Rows8 rows ∧ (∀ r ∈ rows, r.nm ∈ ns) → RowsAt H' L rows → L ≠ a → Keep a H H' → WellAt H' a n' → n' ≤ n + 30 → Q (.ref L) H'
theorem ok__law_rows {P : Program} {w : World} {K : PySem.W.Frag} {mg : Str → Option Value} {base : Heap} {fd : FuncData} (T : Txt K mg w) (F : FnP K "_law_rows" s__law_rows [] fd) : FnOk P w K mg base CX0 5 (He.ga K "_law_rows") fd ps__law_rows (sp__law_rows K) := by
  obtain ⟨fd__law_requirement, F__law_requirement⟩ := T.d__law_requirement
  have G__law_requirement := ok__law_requirement (P := P) (w := w) (base := base) T F__law_requirement
  have k__law_requirement := F__law_requirement.kp
  have b__law_requirement := bi__law_requirement F__law_requirement
  obtain ⟨fd__law_draw, F__law_draw⟩ := T.d__law_draw
  have G__law_draw := ok__law_draw (P := P) (w := w) (base := base) T F__law_draw
  have k__law_draw := F__law_draw.kp
  have b__law_draw := bi__law_draw F__law_draw
  refine F.ok sc__law_rows (fun vs H Q E h => ?len) (fun cdv A outer s H vs Q E hr h => ?body)
  case len => obtain ⟨a, b, n, ns, rfl, hw, hn, hb, nb, hN, k⟩ := h; rfl
  case body =>
  obtain ⟨a, b, n, ns, rfl, hw, hn, hb, nb, hN, k⟩ := h
  have hu := hu_of hr
  refine ⟨_, PSs.nox (pss_one (ps_ret (pe_lc (own := [("_law_k", 3)]) rfl sc__law_rows.nd (pi_range1 rfl T.n_range (pa_cons (pe_call G__law_draw (hr.mono (by first | decide | omega)) rfl T.g__law_draw k__law_draw b__law_draw .nil pass0 (pa_cons (pv 0) (pa_cons (pe_op op_add (pv 2) pe_int) pa_nil))) pa_nil)) (blkOk_by (own := [("_law_k", 3)]) (N := N__law_rows) (sc := defScope s__law_rows) (by decide +kernel)) (fun _ _ _ _ _ => (pg_name (i := 3) sc__law_rows.nd rfl (Or.inl rfl))) (fun _ _ _ _ _ => pts_nil) (fun _ _ _ _ _ => (pe_call G__law_requirement (hr.mono (by first | decide | omega)) rfl T.g__law_requirement k__law_requirement b__law_requirement .nil pass0 (pa_cons (pv 0) (pa_cons (pv 1) pa_nil))))))), ?_⟩
  refine ⟨_, rfl, _, rfl, _, _, rfl, rfl, a, n, 6, rfl, hw, by omega, by decide, by decide, fun c u n1 c0 c1 hn1 hu1 => ?_⟩
  have w1 := well_upd (H := H) (a := a) hu1
  have K1 : Keep a H (upd H a u) := Keep.at_
  have b1 : upd H a u b = some (.lst (ns.map V.str)) := K1 _ _ nb hb
  generalize upd H a u = H1 at w1 K1 b1 ⊢
  refine ⟨c, rfl, by omega, by omega, fun D hD => ?_⟩
  have nD : D ≠ a := well_ne3 w1 hD
  refine lc_range (lo := 0) (n := c.toNat) (fun i H' => Keep a H1 H' ∧ ∃ (n' : Nat) (ps : List Addr) (rows : List Row), WellAt H' a n' ∧ n' ≤ n + 1 + 3 * i ∧ H' D = some (.lst (ps.map V.ref)) ∧ Paired (RowAt H') ps rows ∧ rows.length = i ∧ ∀ r ∈ rows, r ∈ allRows ∧ r.nm ∈ ns)
    ⟨Keep.new hD, n1, [], [], well_new w1 hD, by omega, upd_same, .nil, rfl, fun r hr => by cases hr⟩ ?_ ?_
  · rintro i H2 hi ⟨K2, n2, ps, rows, w2, hn2, gD, hp, lr, hr2⟩
    refine ⟨rfl, yes_ ?_⟩
    refine iteT ?_
    refine ⟨_, rfl, _, rfl, a, b, n2, ns, rfl, w2, by omega, K2 _ _ nb b1, nb, hN, fun p r H3 n3 hrm hr3 K3 w3 hn3 => ?_⟩
    have gD3 := K3 _ _ nD gD
    have lp := paired_len hp
    refine ⟨_, gD3, small1000 (by rw [List.length_map, lp]; omega), fun b o hb hbo => ?_, n3, ps ++ [p], rows ++ [r], ?_, by omega, ?_, ?_, by rw [List.length_append, lr]; rfl, fun q hq => ?_⟩
    · rw [upd_ne (ne_of_none hbo hD)]; exact K3 _ _ hb (K2 _ _ hb hbo)
    · obtain ⟨v, hv, o⟩ := w3; exact ⟨v, by rw [upd_ne nD.symm]; exact hv, o⟩
    · rw [upd_same, List.map_append]; rfl
    · have up : ∀ (x : Addr) (q : Row), RowAt H3 x q → RowAt (upd H3 D (.lst (ps.map V.ref ++ [.ref p]))) x q := fun x q hq => by
        unfold RowAt at hq ⊢
        rw [upd_ne (ne_of hq gD3 fun z => by cases z)]; exact hq
      exact paired_snoc (up _ _ hr3) (Paired.mono (fun x q hq => up x q (K3 _ _ (well_ne w2 hq fun _ z => by cases z) hq)) hp)
    · rcases List.mem_append.mp hq with hq | hq
      · exact hr2 q hq
      · rw [List.mem_singleton.mp hq]; exact hrm
  · rintro H2 ⟨K2, n2, ps, rows, w2, hn2, gD, hp, lr, hr2⟩
    exact k D rows H2 n2 ⟨⟨by omega, fun r h => (hr2 r h).1⟩, fun r h => (hr2 r h).2⟩ ⟨ps, gD, hp⟩ nD (K1.trans K2) w2 (by omega)

def marks : List (Key × V) := [(Sum.inr "is", .str "="), (Sum.inr "not", .str "!="), (Sum.inr "there", .str ""), (Sum.inr "missing", .str "")]
theorem marks_at (vb : Verb) : valV (mergeK [] marks) (Sum.inr (vT vb)) = some (.str (markT vb)) := by cases vb <;> decide +kernel
theorem pre_at (vb : Verb) : strRep "!" (if decide (V.str (vT vb) = V.str "missing") = true then 1 else 0) = preT vb := by cases vb <;> decide +kernel
theorem pre_len (vb : Verb) : (preT vb).length ≤ 1 := by cases vb <;> decide +kernel
theorem mark_len (vb : Verb) : (markT vb).length ≤ 2 := by cases vb <;> decide +kernel
theorem len_app (x y : Str) : (x ++ y).length = x.length + y.length := strLen_append x y
def sp__law_text (K : PySem.W.Frag) : Sp := fun vs H Q _ => ∃ (L : Addr) (rows : List Row), vs = [.ref L] ∧ RowsAt H L rows ∧ Rows8 rows ∧ ∀ H', Same H H' → Q (.str (selT rows)) H'
theorem ok__law_text {P : Program} {w : World} {K : PySem.W.Frag} {mg : Str → Option Value} {base : Heap} {fd : FuncData} (T : Txt K mg w) (F : FnP K "_law_text" s__law_text [] fd) : FnOk P w K mg base CX0 1 (He.ga K "_law_text") fd ps__law_text (sp__law_text K) := by
  refine F.ok sc__law_text (fun vs H Q E h => ?len) (fun cdv A outer s H vs Q E hr h => ?body)
  case len => obtain ⟨L, rows, rfl, ⟨ps, gL, hp⟩, h8, k⟩ := h; rfl
  case body =>
  obtain ⟨L, rows, rfl, ⟨ps, gL, hp⟩, h8, k⟩ := h
  have hu := hu_of hr
  refine ⟨_, PSs.nox (pss_cons (ps_set (i := 1) sc__law_text.nd rfl (Or.inl rfl) (pe_lst pa_nil))
    (pss_cons (ps_for PassesOwn.never rfl (pi_list (pv 0)) (pg_tup rfl (pgs_cons (pg_name (i := 2) sc__law_text.nd rfl (Or.inl rfl)) (pgs_cons (pg_name (i := 3) sc__law_text.nd rfl (Or.inl rfl)) (pgs_cons (pg_name (i := 4) sc__law_text.nd rfl (Or.inl rfl)) pgs_nil))))
      (pss_cons (ps_set (i := 5) sc__law_text.nd rfl (Or.inl rfl) (pe_dget hu (pe_disp (pps_cons pe_str pe_str (pps_cons pe_str pe_str (pps_cons pe_str pe_str (pps_cons pe_str pe_str pps_nil)))) (by rfl) (by rfl) (fun z => by cases z) (by decide)) (pv 3) (fun _ _ => rfl)))
        (pss_one (ps_expr (pe_bm PySem.F.plainAttrs_list PySem.F.slot_list_append PySem.F.type_list_append mt_append (pv 1) (pa_cons (pe_op op_add_str (pe_op op_add_str (pe_op op_add_str (pe_op op_rep_str pe_str (pe_callTy call_int1 (by rfl) T.n_int (by decide +kernel) (pa_cons (pe_cmpR op_eq (pv 3) pe_str (nomark _)) pa_nil))) (pv 2)) (pv 5)) (pv 4)) pa_nil))))))
    (pss_one (ps_ret (pe_join pe_str (pv 1)))))), ?_⟩
  have lp := paired_len hp
  refine ⟨smallN (by show 0 ≤ 1000; decide), fun F hF => ?_⟩
  have S0 := Same.new (u := .lst []) hF
  refine ⟨_, rfl, L, rfl, ⟨_, SqL.of (S0 _ _ gL)⟩, for_list (K := K) (a := L) (xs := ps.map V.ref) (fun i σ H' => ∃ v2 v3 v4 v5 : Option V, σ = [some (.ref L), some (.ref F), v2, v3, v4, v5] ∧ Same H H' ∧ H' F = some (.lst ((rows.take i).map fun r => V.str (rowT r))))
    ⟨_, _, _, _, rfl, S0, upd_same⟩ (fun i σ H' _ ⟨_, _, _, _, _, S, _⟩ => SqL.of (S _ _ gL)) ?_ ?_⟩
  · rintro i x σ H1 hx ⟨v2, v3, v4, v5, rfl, S1, gF⟩
    rw [List.getElem?_map] at hx
    obtain ⟨p, ep, rfl⟩ := Option.map_eq_some_iff.mp hx
    obtain ⟨r, er, hr1⟩ := paired_at hp ep
    have f := row_f (h8.2 r (mem_at er))
    refine ⟨p, _, rfl, SqT.of (S1 _ _ hr1), rfl, _, _, rfl, _, _, rfl, _, _, rfl, rfl, ?_⟩
    intro p2 q2
    refine ⟨upd_same, marks, rfl, by decide, ?_⟩
    rw [upd_upd]
    have S2 := Same.new (u := .dK (mergeK [] marks)) q2
    have g2 : (upd H1 p2 (.dK (mergeK [] marks))) p2 = _ := upd_same
    generalize upd H1 p2 (.dK (mergeK [] marks)) = H2 at S2 g2 ⊢
    have hg : DGet H2 p2 (.str (vT r.vb)) (some (.str (markT r.vb))) := by
      have := DGet.k (k := Sum.inr (vT r.vb)) g2
      rw [marks_at] at this
      exact this
    refine ⟨_, rfl, p2, _, rfl, hg, ?_⟩
    have gF2 := S2 _ _ gF
    have l1 := pre_len r.vb
    have l2 := mark_len r.vb
    have l3 := f.ln
    have l4 := f.lv
    refine ⟨_, rfl, .inl ⟨rfl, _, SqL.of gF2⟩, ?_⟩
    refine ⟨_, rfl, rfl, .inr ⟨_, rfl, _, _, rfl, rfl, (by decide), (by split <;> decide), (by split <;> decide), ?_⟩⟩
    rw [pre_at]
    refine ⟨_, rfl, _, _, rfl, rfl, smallN (by omega), _, rfl, _, _, rfl, rfl, smallN (by rw [len_app]; omega), _, rfl, _, _, rfl, rfl, smallN (by rw [len_app, len_app]; omega), ?_⟩
    refine ⟨F, _, _, rfl, rfl, gF2, small1000 (by rw [List.length_map, List.length_take]; have := h8.1; omega), ?_⟩
    refine ⟨_, _, _, _, rfl, fun b o hb => ?_, ?_⟩
    · rw [upd_ne (ne_of_none hb hF)]; exact S2 _ _ (S1 b o hb)
    · rw [upd_same, get_take er, List.map_append]; rfl
  · rintro σ H1 ⟨v2, v3, v4, v5, rfl, S1, gF⟩
    rw [List.length_map, lp, List.take_length] at gF
    have gF2 : H1 F = some (.lst ((rows.map rowT).map V.str)) := by rw [gF, List.map_map]; rfl
    refine ⟨⟨_, rfl⟩, _, rfl, _, F, rows.map rowT, rfl, rfl, .inl (SqL.of gF2), ?_, k H1 S1⟩
    have q : ∀ l : List Row, (∀ r ∈ l, r ∈ allRows) → ((l.map rowT).map (·.length)).sum ≤ l.length * 50 := fun l => by
      induction l with
      | nil => intro _; exact Nat.le_refl 0
      | cons r l ih =>
        intro h
        have h1 := ih fun z hz => h z (List.mem_cons_of_mem _ hz)
        have h2 := (row_f (h r (List.mem_cons_self ..))).lt
        rw [List.map_cons, List.map_cons, List.sum_cons, List.length_cons]
        omega
    have q1 := q rows h8.2
    have q2 : (",":Str).length = 1 := by decide +kernel
    rw [List.length_map, q2]
    have := h8.1
    omega
def sp__law_fulfils (K : PySem.W.Frag) : Sp := fun vs H Q _ => ∃ (L d : Addr) (rows : List Row) (kvs : List (Str × Str)), vs = [.ref L, .ref d] ∧ RowsAt H L rows ∧ H d = some (.dK (labD kvs)) ∧ Q (.bl (fulAll rows kvs)) H
theorem ok__law_fulfils {P : Program} {w : World} {K : PySem.W.Frag} {mg : Str → Option Value} {base : Heap} {fd : FuncData} (T : Txt K mg w) (F : FnP K "_law_fulfils" s__law_fulfils [] fd) : FnOk P w K mg base CX0 1 (He.ga K "_law_fulfils") fd ps__law_fulfils (sp__law_fulfils K) := by
  refine F.ok sc__law_fulfils (fun vs H Q E h => ?len) (fun cdv A outer s H vs Q E hr h => ?body)
  case len => obtain ⟨L, d, rows, kvs, rfl, ⟨ps, gL, hp⟩, hd, k⟩ := h; rfl
  case body =>
  obtain ⟨L, d, rows, kvs, rfl, ⟨ps, gL, hp⟩, hd, k⟩ := h
  have hu := hu_of hr
  refine ⟨_, PSs.nox (pss_cons (ps_for PassesOwn.never rfl (pi_list (pv 0)) (pg_tup rfl (pgs_cons (pg_name (i := 2) sc__law_fulfils.nd rfl (Or.inl rfl)) (pgs_cons (pg_name (i := 3) sc__law_fulfils.nd rfl (Or.inl rfl)) (pgs_cons (pg_name (i := 4) sc__law_fulfils.nd rfl (Or.inl rfl)) pgs_nil))))
      (pss_cons (ps_if (PW.pt (pw_or (PW.pt (pw_and (pt_cmpR op_eq (pv 3) pe_str (nomark _)) (pw_and1 (pt_cmpR op_ne (pe_dget1 hu (pv 1) (pv 2) ⟨rfl, rfl, rfl, rfl⟩) (pv 4) (nomark _))))) (pw_or1 (PW.pt (pw_and (pt_cmpR op_eq (pv 3) pe_str (nomark _)) (pw_and1 (pt_cmpR op_eq (pe_dget1 hu (pv 1) (pv 2) ⟨rfl, rfl, rfl, rfl⟩) (pv 4) (nomark _)))))))) (pss_one (ps_ret pe_bl)) pss_nil)
        (pss_one (ps_if (PW.pt (pw_or (PW.pt (pw_and (pt_cmpR op_eq (pv 3) pe_str (nomark _)) (pw_and1 (pt_cmp (pc_dnotin hu (pv 2) (pv 1)))))) (pw_or1 (PW.pt (pw_and (pt_cmpR op_eq (pv 3) pe_str (nomark _)) (pw_and1 (pt_cmp (pc_din hu (pv 2) (pv 1))))))))) (pss_one (ps_ret pe_bl)) pss_nil))))
    (pss_one (ps_ret pe_bl))), ?_⟩
  have lp := paired_len hp
  refine ⟨_, rfl, L, rfl, ⟨_, SqL.of gL⟩, for_list (K := K) (a := L) (xs := ps.map V.ref) (fun i σ H' => ∃ v2 v3 v4 : Option V, σ = [some (.ref L), some (.ref d), v2, v3, v4] ∧ H' = H ∧ fulAll (rows.take i) kvs = true)
    ⟨_, _, _, rfl, rfl, rfl⟩ (fun i σ H' _ ⟨_, _, _, _, e, _⟩ => by rw [e]; exact SqL.of gL) ?_ ?_⟩
  · rintro i x σ H' hx ⟨v2, v3, v4, rfl, rfl, hall⟩
    rw [List.getElem?_map] at hx
    obtain ⟨p, ep, rfl⟩ := Option.map_eq_some_iff.mp hx
    obtain ⟨r, er, hr1⟩ := paired_at hp ep
    have hg : DGet H' d (.str r.nm) (look kvs r.nm) := DGet.k (k := Sum.inr r.nm) hd
    have good : fulB r (look kvs r.nm) = true → fulAll (rows.take (i + 1)) kvs = true := fun e => by
      unfold fulAll at hall ⊢
      rw [get_take er, List.all_append, hall, List.all_cons, e]; rfl
    have bad : fulB r (look kvs r.nm) = false → Q (.bl false) H' := fun e => by
      have e2 : fulAll rows kvs = false := by
        unfold fulAll
        rw [List.all_eq_false]
        exact ⟨r, mem_at er, by rw [e]; simp⟩
      rw [e2] at k
      exact k
    have hs := @look_str kvs r.nm
    have isd : IsD H' d := .inl ⟨_, .inl hd⟩
    generalize look kvs r.nm = o at hg hs good bad
    refine ⟨p, _, rfl, SqT.of hr1, rfl, _, _, rfl, _, _, rfl, _, _, rfl, rfl, ?_⟩
    have sc : scal (o.getD .non) (.str r.vl) = true := by
      cases o with
      | none => rfl
      | some v => obtain ⟨x, rfl⟩ := hs rfl; rfl
    have deq : decide (o.getD V.non = V.str r.vl) = decide (o = some (V.str r.vl)) := by
      cases o with
      | none => rw [decide_eq_false (show ¬ (none : Option V) = some (V.str r.vl) from fun z => by cases z), decide_eq_false (show ¬ (none : Option V).getD V.non = V.str r.vl from fun z => by cases z)]
      | some v => obtain ⟨x, rfl⟩ := hs rfl; rw [dec_some]; rfl
    refine ⟨_, rfl, rfl, _, rfl, ?_⟩
    unfold fulB at good bad
    cases evb : r.vb with
    | is =>
      rw [evb] at good bad
      dsimp only at good bad
      refine iteT ⟨_, rfl, d, rfl, isd, _, rfl, o, hg, _, rfl, sc, _, rfl, ?_⟩
      rw [deq]
      cases e : decide (o = some (V.str r.vl)) with
      | false => exact iteT (bad e)
      | true =>
        refine iteF ⟨_, rfl, rfl, _, rfl, iteF (iteF ?_)⟩
        refine ⟨_, rfl, rfl, _, rfl, iteF ⟨_, rfl, rfl, _, rfl, iteF (iteF ?_)⟩⟩
        exact ⟨_, _, _, rfl, rfl, good e⟩
    | not =>
      rw [evb] at good bad
      dsimp only at good bad
      refine iteF ⟨_, rfl, rfl, _, rfl, ?_⟩
      refine iteT ⟨_, rfl, d, rfl, isd, _, rfl, o, hg, _, rfl, sc, _, rfl, ?_⟩
      rw [deq]
      cases e : decide (o = some (V.str r.vl)) with
      | true => exact iteT (bad (by rw [e]; rfl))
      | false =>
        refine iteF ?_
        refine ⟨_, rfl, rfl, _, rfl, iteF ⟨_, rfl, rfl, _, rfl, iteF (iteF ?_)⟩⟩
        exact ⟨_, _, _, rfl, rfl, good (by rw [e]; rfl)⟩
    | there =>
      rw [evb] at good bad
      dsimp only at good bad
      refine iteF ⟨_, rfl, rfl, _, rfl, iteF (iteF ?_)⟩
      refine ⟨_, rfl, rfl, _, rfl, iteT ⟨_, rfl, _, rfl, d, o, rfl, hg, _, rfl, ?_⟩⟩
      cases e : o.isSome with
      | false => exact iteT (bad e)
      | true => exact iteF ⟨_, rfl, rfl, _, rfl, iteF (iteF ⟨_, _, _, rfl, rfl, good e⟩)⟩
    | missing =>
      rw [evb] at good bad
      dsimp only at good bad
      refine iteF ⟨_, rfl, rfl, _, rfl, iteF (iteF ?_)⟩
      refine ⟨_, rfl, rfl, _, rfl, iteF ⟨_, rfl, rfl, _, rfl, iteT ⟨_, rfl, _, rfl, d, o, rfl, hg, _, rfl, ?_⟩⟩⟩
      cases e : o.isSome with
      | true => exact iteT (bad (by rw [e]; rfl))
      | false => exact iteF ⟨_, _, _, rfl, rfl, good (by rw [e]; rfl)⟩
  · rintro σ H' ⟨v2, v3, v4, rfl, rfl, hall⟩
    rw [List.length_map, lp, List.take_length] at hall
    rw [hall] at k
    exact k

/-! ### all labels of some names with some values -/
abbrev Lb := List (Str × Str)
def growL (xs : List Str) (acc : List Lb) (n : Str) : List Lb := acc ++ acc.flatMap fun l => xs.map fun x => l ++ [(n, x)]
def allLab (xs : List Str) (ns : List Str) : List Lb := ns.foldl (growL xs) [[]]
theorem allLab_snoc (xs ns : List Str) (n : Str) : allLab xs (ns ++ [n]) = growL xs (allLab xs ns) n := by unfold allLab; rw [List.foldl_append]; rfl
theorem flat_len {α β : Type} (f : α → List β) (k : Nat) : ∀ l : List α, (∀ a ∈ l, (f a).length = k) → (l.flatMap f).length = l.length * k
  | [], _ => by simp
  | a :: l, h => by
    rw [List.flatMap_cons, List.length_append, h a List.mem_cons_self, flat_len f k l fun b hb => h b (List.mem_cons_of_mem _ hb), List.length_cons, Nat.succ_mul, Nat.add_comm]
theorem growL_len (xs : List Str) (acc : List Lb) (n : Str) : (growL xs acc n).length = acc.length + acc.length * xs.length := by
  unfold growL
  rw [List.length_append, flat_len _ xs.length]
  exact fun _ _ => List.length_map _
theorem allLab_len (xs : List Str) (m : Nat) (hm : xs.length ≤ m) : ∀ ns : List Str, (allLab xs ns).length ≤ (m + 1) ^ ns.length := fun ns => by
  have : ∀ (ns : List Str) (acc : List Lb), (ns.foldl (growL xs) acc).length ≤ acc.length * (m + 1) ^ ns.length := fun ns => by
    induction ns with
    | nil => intro acc; simp
    | cons n ns more =>
      intro acc
      rw [List.foldl_cons, List.length_cons, Nat.pow_succ']
      refine Nat.le_trans (more _) ?_
      rw [growL_len, ← Nat.mul_assoc]
      refine Nat.mul_le_mul_right _ ?_
      rw [Nat.mul_succ, Nat.add_comm]
      exact Nat.add_le_add_right (Nat.mul_le_mul_left _ hm) _
  have h := this ns [[]]
  simpa [allLab] using h
theorem allLab_keys (xs : List Str) : ∀ (ns done : List Str) (acc : List Lb), (done ++ ns).Nodup → (∀ t ∈ acc, (t.map (·.1)).Nodup ∧ ∀ n ∈ t.map (·.1), n ∈ done) → ∀ t ∈ ns.foldl (growL xs) acc, (t.map (·.1)).Nodup ∧ ∀ n ∈ t.map (·.1), n ∈ done ++ ns
  | [], done, acc, _, h, t, ht => by rw [List.append_nil]; exact h t ht
  | n :: ns, done, acc, nd, h, t, ht => by
    have e : done ++ n :: ns = (done ++ [n]) ++ ns := by rw [List.append_assoc]; rfl
    rw [e] at nd ⊢
    refine allLab_keys xs ns (done ++ [n]) (growL xs acc n) nd (fun t ht => ?_) t ht
    have nn : n ∉ done := by
      have := (List.nodup_append.mp nd).1
      intro z
      exact (List.nodup_append.mp this).2.2 n z n (List.mem_singleton.mpr rfl) rfl
    unfold growL at ht
    rcases List.mem_append.mp ht with ht | ht
    · exact ⟨(h t ht).1, fun m hm => List.mem_append_left _ ((h t ht).2 m hm)⟩
    · obtain ⟨l, hl, ht⟩ := List.mem_flatMap.mp ht
      obtain ⟨x, _, rfl⟩ := List.mem_map.mp ht
      rw [List.map_append]
      refine ⟨List.nodup_append.mpr ⟨(h l hl).1, by simp, fun a ha b hb => ?_⟩, fun m hm => ?_⟩
      · have : b = n := List.mem_singleton.mp hb
        subst this
        exact fun z => nn (z ▸ (h l hl).2 a ha)
      · rcases List.mem_append.mp hm with hm | hm
        · exact List.mem_append_left _ ((h l hl).2 m hm)
        · exact List.mem_append_right _ hm
theorem lab_keys_at {xs ns : List Str} {i : Nat} {n : Str} (nd : ns.Nodup) (e : ns[i]? = some n) : ∀ t ∈ allLab xs (ns.take i), (t.map (·.1)).Nodup ∧ n ∉ t.map (·.1) := by
  intro t ht
  have ndt : (ns.take i).Nodup := List.Sublist.nodup (List.take_sublist _ _) nd
  obtain ⟨a, b⟩ := allLab_keys xs (ns.take i) [] [[]] ndt (fun t ht => by rw [List.mem_singleton.mp ht]; exact ⟨.nil, fun n hn => by cases hn⟩) t ht
  refine ⟨a, fun z => ?_⟩
  have m := b n z
  rw [List.nil_append] at m
  obtain ⟨j, hj⟩ := List.mem_iff_getElem?.mp m
  rw [List.getElem?_take] at hj
  split at hj
  · rename_i lt
    exact absurd ((List.getElem?_inj (lt_at hj) nd).mp (hj.trans e.symm)) (Nat.ne_of_lt lt)
  · cases hj
def LabsAt (H : Hp) (F : Addr) (ts : List Lb) : Prop := ∃ ds : List Addr, H F = some (.lst (ds.map V.ref)) ∧ Paired (fun d t => H d = some (.dK (labD t))) ds ts
theorem labs_same {H H' : Hp} {F : Addr} {ts : List Lb} (s : Same H H') (h : LabsAt H F ts) : LabsAt H' F ts := have ⟨ds, h1, h2⟩ := h; ⟨ds, s _ _ h1, Paired.mono (fun _ _ q => s _ _ q) h2⟩
theorem merge_one {t : Lb} {n x : Str} (nd : (t.map (·.1)).Nodup) (new : n ∉ t.map (·.1)) : mergeK [] (labD t ++ [(Sum.inr n, .str x)]) = labD (t ++ [(n, x)]) := by
  have e : labD t ++ [(Sum.inr n, .str x)] = labD (t ++ [(n, x)]) := by unfold labD; rw [List.map_append]; rfl
  rw [e, merge_app _ _ (by
    rw [List.nil_append, lab_keys]
    refine nd_inr ?_
    rw [List.map_append]
    exact List.nodup_append.mpr ⟨nd, by simp, fun a ha b hb => fun z => new (by have : b = n := List.mem_singleton.mp hb; rw [← this, ← z]; exact ha)⟩)]
  rfl
def sp__law_all_labels (K : PySem.W.Frag) : Sp := fun vs H Q _ => ∃ (a b : Addr) (ns xs : List Str), vs = [.ref a, .ref b] ∧ H a = some (.lst (ns.map V.str)) ∧ H b = some (.lst (xs.map V.str)) ∧ ns.Nodup ∧ ns.length ≤ 3 ∧ xs.length ≤ 20 ∧
  ∀ p H', Same H H' → LabsAt H' p (allLab xs ns) → Q (.ref p) H'
theorem small6 {n : Nat} (h : n ≤ 100000) : n < sizeLine := by rw [sizeLine_eq]; omega
theorem ok__law_all_labels {P : Program} {w : World} {K : PySem.W.Frag} {mg : Str → Option Value} {base : Heap} {fd : FuncData} (T : Txt K mg w) (F : FnP K "_law_all_labels" s__law_all_labels [] fd) : FnOk P w K mg base CX0 1 (He.ga K "_law_all_labels") fd ps__law_all_labels (sp__law_all_labels K) := by
  refine F.ok sc__law_all_labels (fun vs H Q E h => ?len) (fun cdv A outer s H vs Q E hr h => ?body)
  case len => obtain ⟨a, b, ns, xs, rfl, ga, gb, nd, ln, lx, k⟩ := h; rfl
  case body =>
  obtain ⟨a, b, ns, xs, rfl, ga, gb, nd, ln, lx, k⟩ := h
  have hu := hu_of hr
  refine ⟨_, PSs.nox (pss_cons (ps_set (i := 2) sc__law_all_labels.nd rfl (Or.inl rfl) (pe_lst (pa_cons pe_dnewK pa_nil)))
    (pss_cons (ps_for PassesOwn.never rfl (pi_list (pv 0)) (pg_name (i := 3) sc__law_all_labels.nd rfl (Or.inl rfl))
      (pss_cons (ps_set (i := 4) sc__law_all_labels.nd rfl (Or.inl rfl) (pe_lst pa_nil))
        (pss_cons (ps_for PassesOwn.never rfl (pi_list (pv 2)) (pg_name (i := 5) sc__law_all_labels.nd rfl (Or.inl rfl))
          (pss_one (ps_for PassesOwn.never rfl (pi_list (pv 1)) (pg_name (i := 6) sc__law_all_labels.nd rfl (Or.inl rfl))
              (pss_one (ps_expr (pe_bm PySem.F.plainAttrs_list PySem.F.slot_list_append PySem.F.type_list_append mt_append (pv 4) (pa_cons (pe_callTy (call_dictP rfl) (by rfl) T.n_dict (by decide +kernel) (pa_cons (pe_op op_cat (LiI.pe_listItems rfl (pv 5) rfl T.n_list (by decide +kernel)) (pe_lst (pa_cons (pe_tup (pa_cons (pv 3) (pa_cons (pv 6) pa_nil))) pa_nil))) pa_nil)) pa_nil)))))))
        (pss_one (ps_set (i := 2) sc__law_all_labels.nd rfl (Or.inl rfl) (pe_op op_cat (pv 2) (pv 4)))))))
    (pss_one (ps_ret (pv 2))))), ?_⟩
  have big : ∀ i, (allLab xs (ns.take i)).length ≤ 9261 := fun i => by
    refine Nat.le_trans (allLab_len xs 20 lx (ns.take i)) ?_
    have : (ns.take i).length ≤ 3 := by rw [List.length_take]; omega
    exact Nat.le_trans (Nat.pow_le_pow_right (by decide) this) (by decide)
  intro d0 q0
  refine ⟨smallN (by show 1 ≤ 1000; decide), fun F0 qF => ?_⟩
  have S0 := (Same.new (u := .dK []) q0).trans (Same.new (u := .lst [.ref d0]) qF)
  have L0 : LabsAt (upd (upd H d0 (.dK [])) F0 (.lst [.ref d0])) F0 [[]] := ⟨[d0], upd_same, .cons (Same.new qF _ _ upd_same) .nil⟩
  generalize upd (upd H d0 (.dK [])) F0 (.lst [.ref d0]) = H0 at S0 L0 ⊢
  refine ⟨_, rfl, a, rfl, ⟨_, SqL.of (S0 _ _ ga)⟩, for_list (K := K) (a := a) (xs := ns.map V.str) (fun i σ H' => ∃ (F : Addr) (v3 v4 v5 v6 : Option V), σ = [some (.ref a), some (.ref b), some (.ref F), v3, v4, v5, v6] ∧ Same H H' ∧ LabsAt H' F (allLab xs (ns.take i)))
    ⟨F0, _, _, _, _, rfl, S0, L0⟩ (fun i σ H' _ ⟨_, _, _, _, _, _, S, _⟩ => SqL.of (S _ _ ga)) ?_ ?_⟩
  · rintro i x σ H1 hx ⟨F, v3, v4, v5, v6, rfl, S1, L1⟩
    rw [List.getElem?_map] at hx
    obtain ⟨n, en, rfl⟩ := Option.map_eq_some_iff.mp hx
    have keys := lab_keys_at (xs := xs) nd en
    have sub : ∀ t ∈ allLab xs (ns.take i), ∀ y ∈ t.map (·.1), y ∈ ns := fun t ht y hy => by
      have := (allLab_keys xs (ns.take i) [] [[]] (List.Sublist.nodup (List.take_sublist _ _) nd) (fun t ht => by rw [List.mem_singleton.mp ht]; exact ⟨.nil, fun n hn => by cases hn⟩) t ht).2 y hy
      exact List.mem_of_mem_take (by simpa using this)
    have lb := big i
    have lb2 := big (i + 1)
    rw [get_take en, allLab_snoc] at lb2 ⊢
    rw [growL_len] at lb2
    obtain ⟨ds, gF, hd⟩ := L1
    generalize allLab xs (ns.take i) = acc at keys sub lb lb2 hd ⊢
    have ld := paired_len hd
    refine ⟨smallN (by show 0 ≤ 1000; decide), fun M qM => ?_⟩
    have SM := Same.new (u := .lst []) qM
    refine ⟨_, rfl, F, rfl, ⟨_, SqL.of (SM _ _ gF)⟩, for_list (K := K) (a := F) (xs := ds.map V.ref) (fun j σ H' => ∃ (v5 v6 : Option V) (es : List Addr), σ = [some (.ref a), some (.ref b), some (.ref F), some (.str n), some (.ref M), v5, v6] ∧ Same H1 H' ∧
        H' M = some (.lst (es.map V.ref)) ∧ Paired (fun d t => H' d = some (.dK (labD t))) es ((acc.take j).flatMap fun l => xs.map fun x => l ++ [(n, x)]))
      ⟨_, _, [], rfl, SM, upd_same, by rw [List.take_zero]; exact .nil⟩ (fun j σ H' _ ⟨_, _, _, _, S, _⟩ => SqL.of (S _ _ gF)) ?_ ?_⟩
    · rintro j x σ H2 hx ⟨v5, v6, es, rfl, S2, gM, he⟩
      rw [List.getElem?_map] at hx
      obtain ⟨d, ed, rfl⟩ := Option.map_eq_some_iff.mp hx
      obtain ⟨t, et, gd⟩ := paired_at hd ed
      obtain ⟨k1, k2⟩ := keys t (mem_at et)
      have part : ((acc.take j).flatMap fun l => xs.map fun x => l ++ [(n, x)]).length ≤ acc.length * xs.length := by
        rw [flat_len _ xs.length _ fun _ _ => List.length_map _, List.length_take]
        exact Nat.mul_le_mul_right _ (by omega)
      have jl := lt_at et
      refine ⟨_, rfl, b, rfl, ⟨_, SqL.of (S2 _ _ (S1 _ _ gb))⟩, for_list (K := K) (a := b) (xs := xs.map V.str) (fun m σ H' => ∃ (v6 : Option V) (es : List Addr), σ = [some (.ref a), some (.ref b), some (.ref F), some (.str n), some (.ref M), some (.ref d), v6] ∧ Same H1 H' ∧
          H' M = some (.lst (es.map V.ref)) ∧ Paired (fun d t => H' d = some (.dK (labD t))) es (((acc.take j).flatMap fun l => xs.map fun x => l ++ [(n, x)]) ++ (xs.take m).map fun x => t ++ [(n, x)]))
        ⟨_, es, rfl, S2, gM, by rw [List.take_zero, List.map_nil, List.append_nil]; exact he⟩ (fun m σ H' _ ⟨_, _, _, S, _⟩ => SqL.of (S _ _ (S1 _ _ gb))) ?_ ?_⟩
      · rintro m x σ H3 hx ⟨v6, es, rfl, S3, gM, he⟩
        rw [List.getElem?_map] at hx
        obtain ⟨x, ex, rfl⟩ := Option.map_eq_some_iff.mp hx
        have gd3 := S3 _ _ gd
        have len := paired_len he
        rw [List.length_append, List.length_map, List.length_take] at len
        refine ⟨_, rfl, .inl ⟨rfl, _, SqL.of gM⟩, _, rfl, d, _, rfl, gd3, fun H4 p4 ts S4 _ _ _ g4 pr4 => ?_⟩
        have S4' : Same H3 H4 := S4
        have lt4 : ts.length = (labD t).length := paired_len pr4
        have lt : t.length ≤ 3 := by
          have h := within_len (l := n :: t.map (·.1)) (ks := ns) (List.nodup_cons.mpr ⟨k2, k1⟩) (fun y hy => by
            rcases List.mem_cons.mp hy with e | hy
            · rw [e]; exact mem_at en
            · exact sub t (mem_at et) y hy)
          rw [List.length_cons, List.length_map] at h
          omega
        refine ⟨_, rfl, _, rfl, smallN (by show 2 ≤ 1000; decide), fun pt qt => ⟨smallN (by show 1 ≤ 1000; decide), fun pl ql => ?_⟩⟩
        have St := Same.new (u := .tup [.str n, .str x]) qt
        have gt : (upd H4 pt (.tup [.str n, .str x])) pt = some (.tup [.str n, .str x]) := upd_same
        generalize upd H4 pt (.tup [.str n, .str x]) = H5 at St gt ql ⊢
        have Sl := Same.new (u := .lst [.ref pt]) ql
        have gl : (upd H5 pl (.lst [.ref pt])) pl = some (.lst [.ref pt]) := upd_same
        generalize upd H5 pl (.lst [.ref pt]) = H6 at Sl gl ⊢
        have S46 := St.trans Sl
        refine ⟨p4, pl, _, _, rfl, rfl, S46 _ _ g4, gl, smallN (by rw [List.length_map, lt4]; unfold labD; rw [List.length_map]; show _ + 1 ≤ 1000; omega), fun pc qc => ?_⟩
        have Sc := Same.new (u := .lst (ts.map V.ref ++ [.ref pt])) qc
        have prs : Paired (fun (e : Addr) (c : Key × V) => SqT K (upd H6 pc (.lst (ts.map V.ref ++ [.ref pt]))) e [kV c.1, c.2]) (ts ++ [pt]) (labD t ++ [(Sum.inr n, .str x)]) :=
          paired_snoc (a := pt) (b := (Sum.inr n, V.str x)) (SqT.of (Sc _ _ (Sl _ _ gt))) (Paired.mono (fun (e : Addr) (c : Key × V) (q : H4 e = some (.tup [kV c.1, c.2])) => SqT.of (Sc _ _ (S46 _ _ q))) pr4)
        refine ⟨pc, ts ++ [pt], labD t ++ [((Sum.inr n : Key), V.str x)], rfl, SqL.of (by rw [upd_same, List.map_append]; rfl), prs, fun pd qd => ?_⟩
        rw [merge_one k1 k2]
        have Sd := Same.new (u := .dK (labD (t ++ [(n, x)]))) qd
        have gd7 : (upd (upd H6 pc (.lst (ts.map V.ref ++ [.ref pt]))) pd (.dK (labD (t ++ [(n, x)])))) pd = _ := upd_same
        have S37 := S4'.trans (S46.trans (Sc.trans Sd))
        generalize upd (upd H6 pc (.lst (ts.map V.ref ++ [.ref pt]))) pd (.dK (labD (t ++ [(n, x)]))) = H7 at gd7 S37 ⊢
        have gM7 := S37 _ _ gM
        have up : ∀ (e : Addr) (u : Lb), H7 e = some (.dK (labD u)) → upd H7 M (.lst (es.map V.ref ++ [.ref pd])) e = some (.dK (labD u)) := fun e u h => by rw [upd_ne (ne_of h gM7 fun z => by cases z)]; exact h
        refine ⟨M, _, _, rfl, rfl, gM7, small6 (by have q : min m xs.length ≤ 20 := Nat.le_trans (Nat.min_le_right _ _) lx; rw [List.length_map]; omega), _, es ++ [pd], rfl, fun e o he' => ?_, by rw [upd_same, List.map_append]; rfl, ?_⟩
        · rw [upd_ne (ne_of_none he' qM)]; exact S37 _ _ (S3 _ _ he')
        · rw [get_take ex, List.map_append, ← List.append_assoc]
          exact paired_snoc (F := fun (e : Addr) (u : Lb) => upd H7 M (.lst (es.map V.ref ++ [.ref pd])) e = some (.dK (labD u))) (up _ _ gd7) (Paired.mono (fun e u h => up e u (S37 _ _ h)) he)
      · rintro σ H3 ⟨v6, es, rfl, S3, gM, he⟩
        rw [List.length_map, List.take_length] at he
        refine ⟨_, _, es, rfl, S3, gM, ?_⟩
        rw [get_take et, List.flatMap_append, List.flatMap_cons, List.flatMap_nil, List.append_nil]
        exact he
    · rintro σ H2 ⟨v5, v6, es, rfl, S2, gM, he⟩
      rw [List.length_map, ld, List.take_length] at he
      have le := paired_len he
      rw [flat_len _ xs.length _ fun _ _ => List.length_map _] at le
      refine ⟨_, rfl, _, rfl, F, M, _, _, rfl, rfl, S2 _ _ gF, gM, Nat.le_of_lt (small6 (by rw [List.length_map, List.length_map, ld, le]; omega)), fun G qG => ?_⟩
      refine ⟨G, _, _, _, _, rfl, S1.trans (S2.trans (Same.new qG)), ds ++ es, by rw [upd_same, List.map_append], ?_⟩
      exact paired_join (Paired.mono (fun _ _ q => Same.new qG _ _ (S2 _ _ q)) hd) (Paired.mono (fun _ _ q => Same.new qG _ _ q) he)
  · rintro σ H1 ⟨F, v3, v4, v5, v6, rfl, S1, L1⟩
    rw [List.length_map, List.take_length] at L1
    exact ⟨_, rfl, k F H1 S1 L1⟩

/-! ### one name, which is there without some values -/
theorem paired_take {α β : Type} {F : α → β → Prop} : ∀ {xs : List α} {ys : List β} (i : Nat), Paired F xs ys → Paired F (xs.take i) (ys.take i)
  | _, _, 0, _ => by rw [List.take_zero, List.take_zero]; exact .nil
  | _, _, _ + 1, .nil => .nil
  | _, _, i + 1, .cons r t => .cons r (paired_take i t)
theorem paired_drop {α β : Type} {F : α → β → Prop} : ∀ {xs : List α} {ys : List β} (i : Nat), Paired F xs ys → Paired F (xs.drop i) (ys.drop i)
  | _, _, 0, h => h
  | _, _, _ + 1, .nil => .nil
  | _, _, i + 1, .cons _ t => paired_drop i t
theorem cut_mem {xs : List V} {lo hi : Option Int} {y : V} (h : y ∈ cutV xs lo hi) : y ∈ xs := List.mem_of_mem_drop (List.mem_of_mem_take h)
def vals7 : List Str := ["", "a", "b", "c", "0", "web", "-"]
theorem vals7_in : ∀ z ∈ vals7, z ∈ vals8 := by decide +kernel
def sp__law_crowded (K : PySem.W.Frag) : Sp := fun vs H Q _ => ∃ (a : Addr) (n : Nat), vs = [.ref a] ∧ WellAt H a n ∧ n < 700000 ∧
  ∀ (L : Addr) (rows : List Row) (H' : Hp) (n' : Nat), Rows8 rows → (∀ r ∈ rows, r.nm = "app") → RowsAt H' L rows → L ≠ a → Keep a H H' → WellAt H' a n' → n' ≤ n + 30 → Q (.ref L) H'
theorem ok__law_crowded {P : Program} {w : World} {K : PySem.W.Frag} {mg : Str → Option Value} {base : Heap} {fd : FuncData} (T : Txt K mg w) (F : FnP K "_law_crowded" s__law_crowded [] fd) : FnOk P w K mg base CX0 2 (He.ga K "_law_crowded") fd ps__law_crowded (sp__law_crowded K) := by
  obtain ⟨fd__law_draw, F__law_draw⟩ := T.d__law_draw
  have G__law_draw := ok__law_draw (P := P) (w := w) (base := base) T F__law_draw
  have k__law_draw := F__law_draw.kp
  have b__law_draw := bi__law_draw F__law_draw
  refine F.ok sc__law_crowded (fun vs H Q E h => ?len) (fun cdv A outer s H vs Q E hr h => ?body)
  case len => obtain ⟨a, n, rfl, hw, hn, k⟩ := h; rfl
  case body =>
  obtain ⟨a, n, rfl, hw, hn, k⟩ := h
  have hu := hu_of hr
  refine ⟨_, PSs.nox (pss_cons (ps_set (i := 1) sc__law_crowded.nd rfl (Or.inl rfl) (pe_lst (pa_cons (pe_tup (pa_cons pe_str (pa_cons pe_str (pa_cons pe_str pa_nil)))) pa_nil)))
    (pss_cons (ps_for PassesOwn.never rfl (pi_list (pe_slice sl_list (pe_lst (pa_cons pe_str (pa_cons pe_str (pa_cons pe_str (pa_cons pe_str (pa_cons pe_str (pa_cons pe_str (pa_cons pe_str pa_nil)))))))) po_none (po_some (pe_op op_add pe_int (pe_call G__law_draw (hr.mono (by first | decide | omega)) rfl T.g__law_draw k__law_draw b__law_draw .nil pass0 (pa_cons (pv 0) (pa_cons pe_int pa_nil))))))) (pg_name (i := 2) sc__law_crowded.nd rfl (Or.inl rfl))
      (pss_one (ps_expr (pe_bm PySem.F.plainAttrs_list PySem.F.slot_list_insert PySem.F.type_list_insert mt_insert (pv 1) (pa_cons (pe_call G__law_draw (hr.mono (by first | decide | omega)) rfl T.g__law_draw k__law_draw b__law_draw .nil pass0 (pa_cons (pv 0) (pa_cons (pe_op op_add (pe_callB call_len_seq (by rfl) T.n_len (by decide +kernel) (pa_cons (pv 1) pa_nil)) pe_int) pa_nil))) (pa_cons (pe_tup (pa_cons pe_str (pa_cons pe_str (pa_cons (pv 2) pa_nil)))) pa_nil))))))
    (pss_one (ps_ret (pv 1))))), ?_⟩
  have app4 : ("app" : Str) ∈ names4 := by simp [names4]
  refine ⟨smallN (by show 3 ≤ 1000; decide), fun t0 q0 => ⟨smallN (by show 1 ≤ 1000; decide), fun L qL => ?_⟩⟩
  have w0 := well_new (u := .tup [.str "app", .str "there", .str ""]) hw q0
  have K0 := Keep.new (a := a) (u := .tup [.str "app", .str "there", .str ""]) q0
  have g0 : RowAt (upd H t0 (.tup [.str "app", .str "there", .str ""])) t0 ⟨"app", .there, ""⟩ := upd_same
  generalize upd H t0 (.tup [.str "app", .str "there", .str ""]) = H0 at w0 K0 g0 qL ⊢
  have w1 := well_new (u := .lst [.ref t0]) w0 qL
  have K1 := K0.trans (Keep.new (a := a) (u := .lst [.ref t0]) qL)
  have g1 : RowAt (upd H0 L (.lst [.ref t0])) t0 ⟨"app", .there, ""⟩ := Same.new qL _ _ g0
  have gL : (upd H0 L (.lst [.ref t0])) L = some (.lst ([t0].map V.ref)) := upd_same
  have nL : L ≠ a := well_ne3 w0 qL
  have K0L : ∀ {o : HO}, L ≠ a → H L = some o → False := fun na h => by have := K0 _ _ na h; rw [this] at qL; cases qL
  generalize upd H0 L (.lst [.ref t0]) = H1 at w1 K1 g1 gL ⊢
  refine ⟨smallN (by show 7 ≤ 1000; decide), fun pv qv => ?_⟩
  have w2 := well_new (u := .lst (vals7.map V.str)) w1 qv
  have S2 := Same.new (u := .lst (vals7.map V.str)) qv
  have gv : (upd H1 pv (.lst (vals7.map V.str))) pv = _ := upd_same
  have nv : pv ≠ a := well_ne3 w1 qv
  have ev : upd H1 pv (.lst [V.str "", .str "a", .str "b", .str "c", .str "0", .str "web", .str "-"]) = upd H1 pv (.lst (vals7.map V.str)) := rfl
  rw [ev]
  clear ev
  have K2 := K1.trans (Keep.of S2)
  have g2 := S2 _ _ g1
  have gL2 := S2 _ _ gL
  generalize upd H1 pv (.lst (vals7.map V.str)) = H2 at w2 K2 gv g2 gL2 ⊢
  clear S2 K1 K0 g1 gL w1 w0 g0
  refine ⟨_, rfl, a, n, 7, rfl, w2, by omega, by decide, by decide, fun r u n3 r0 r1 hn3 hu3 => ?_⟩
  have K3 := K2.trans (Keep.at_ (u := u))
  have w3 := well_upd (H := H2) (a := a) hu3
  have gv3 : upd H2 a u pv = _ := Keep.at_ _ _ nv gv
  have gL3 : upd H2 a u L = _ := Keep.at_ _ _ nL gL2
  have g3 : RowAt (upd H2 a u) t0 ⟨"app", .there, ""⟩ := Keep.at_ _ _ (well_ne w2 g2 fun _ z => by cases z) g2
  generalize upd H2 a u = H3 at K3 w3 gv3 gL3 g3 ⊢
  refine ⟨_, _, rfl, rfl, _, rfl, pv, _, rfl, SqL.of gv3, fun pS qS => ?_⟩
  have hS : ∀ x ∈ cutV (vals7.map V.str) none (some (1 + r)), ∃ z, x = .str z ∧ z ∈ vals8 := fun x hx => by
    obtain ⟨z, hz, rfl⟩ := List.mem_map.mp (cut_mem hx)
    exact ⟨z, rfl, vals7_in z hz⟩
  have lS : (cutV (vals7.map V.str) none (some (1 + r))).length ≤ 7 := cutV_length _ _ _
  generalize cutV (vals7.map V.str) none (some (1 + r)) = items at hS lS ⊢
  have S4 := Same.new (u := .lst items) qS
  have w4 := well_new (u := .lst items) w3 qS
  have gS : (upd H3 pS (.lst items)) pS = _ := upd_same
  have nS : pS ≠ a := well_ne3 w3 qS
  have K4 := K3.trans (Keep.of S4)
  have gL4 := S4 _ _ gL3
  have g4 : RowAt (upd H3 pS (.lst items)) t0 ⟨"app", .there, ""⟩ := S4 _ _ g3
  have nLS : L ≠ pS := fun z => by rw [← z, gL3] at qS; cases qS
  generalize upd H3 pS (.lst items) = H4 at w4 gS K4 gL4 g4 ⊢
  refine ⟨pS, rfl, ⟨_, SqL.of gS⟩, for_list (K := K) (a := pS) (xs := items) (fun i σ H' => ∃ (v2 : Option V) (n' : Nat) (ps : List Addr) (rows : List Row), σ = [some (.ref a), some (.ref L), v2] ∧ Keep a H H' ∧ WellAt H' a n' ∧ n' ≤ n + 1 + i ∧ H' pS = some (.lst items) ∧ H' L = some (.lst (ps.map V.ref)) ∧
      Paired (RowAt H') ps rows ∧ rows.length = i + 1 ∧ ∀ r ∈ rows, r ∈ allRows ∧ r.nm = "app")
    ⟨_, n3, [t0], [⟨"app", .there, ""⟩], rfl, K4, w4, by omega, gS, gL4, .cons g4 .nil, rfl, fun r hr => by rw [List.mem_singleton.mp hr]; exact ⟨(row_mem app4 (v := "") (by simp [vals8])).2.2.1, rfl⟩⟩ (fun i σ H' _ ⟨_, _, _, _, _, _, _, _, g, _⟩ => SqL.of g) ?_ ?_⟩
  · rintro i x σ H5 hx ⟨v2, n5, ps, rows, rfl, K5, w5, hn5, g5S, g5L, hp, lr, hr⟩
    obtain ⟨z, rfl, hz⟩ := hS x (mem_at hx)
    have il := lt_at hx
    have lp := paired_len hp
    refine ⟨_, rfl, .inl ⟨rfl, _, SqL.of g5L⟩, _, rfl, _, rfl, L, _, rfl, .inl (SqL.of g5L), _, _, rfl, rfl, a, n5, _, rfl, w5, by omega, (by omega), (by rw [List.length_map, lp, lr]; omega), fun c u6 n6 c0 c1 hn6 hu6 => ?_⟩
    rw [List.length_map, lp, lr] at c1
    have K6 := K5.trans (Keep.at_ (u := u6))
    have w6 := well_upd (H := H5) (a := a) hu6
    have g6S : upd H5 a u6 pS = _ := Keep.at_ _ _ nS g5S
    have g6L : upd H5 a u6 L = _ := Keep.at_ _ _ nL g5L
    have hp6 : Paired (RowAt (upd H5 a u6)) ps rows := Paired.mono (fun p r q => Keep.at_ _ _ (well_ne w5 q fun _ z => by cases z) q) hp
    generalize upd H5 a u6 = H6 at K6 w6 g6S g6L hp6 ⊢
    refine ⟨_, rfl, smallN (by show 3 ≤ 1000; decide), fun pt qt => ?_⟩
    have S7 := Same.new (u := .tup [.str "app", .str "not", .str z]) qt
    have w7 := well_new (u := .tup [.str "app", .str "not", .str z]) w6 qt
    have gt : RowAt (upd H6 pt (.tup [.str "app", .str "not", .str z])) pt ⟨"app", .not, z⟩ := upd_same
    have g7L := S7 _ _ g6L
    have g7S := S7 _ _ g6S
    have hp7 : Paired (RowAt (upd H6 pt (.tup [.str "app", .str "not", .str z]))) ps rows := Paired.mono (fun p r q => S7 _ _ q) hp6
    have K7 := K6.trans (Keep.of S7)
    generalize upd H6 pt (.tup [.str "app", .str "not", .str z]) = H7 at w7 gt g7L g7S hp7 K7 ⊢
    refine ⟨L, _, c, _, rfl, rfl, g7L, small1000 (by rw [List.length_map, lp, lr]; omega), c0, by omega, ?_⟩
    have eL : (ps.map V.ref).take c.toNat ++ [V.ref pt] ++ (ps.map V.ref).drop c.toNat = (ps.take c.toNat ++ [pt] ++ ps.drop c.toNat).map V.ref := by
      rw [List.map_append, List.map_append, List.map_take, List.map_drop]; rfl
    rw [eL]
    have up : ∀ (b : Addr) (q : Row), RowAt H7 b q → RowAt (upd H7 L (.lst ((ps.take c.toNat ++ [pt] ++ ps.drop c.toNat).map V.ref))) b q := fun b q h => by
      unfold RowAt at h ⊢
      rw [upd_ne (ne_of h g7L fun z => by cases z)]; exact h
    refine ⟨_, n6, ps.take c.toNat ++ [pt] ++ ps.drop c.toNat, rows.take c.toNat ++ [⟨"app", .not, z⟩] ++ rows.drop c.toNat, rfl, fun b o hb hbo => ?_, ?_, by omega, ?_, upd_same, ?_, ?_, fun r hr' => ?_⟩
    · rw [upd_ne (fun e => by subst e; exact K0L hb hbo)]
      exact K7 _ _ hb hbo
    · obtain ⟨v, hv, o⟩ := w7; exact ⟨v, by rw [upd_ne nL.symm]; exact hv, o⟩
    · rw [upd_ne nLS.symm]; exact g7S
    · exact Paired.mono (fun b q h => up b q h) (paired_join (paired_join (paired_take _ hp7) (.cons gt .nil)) (paired_drop _ hp7))
    · simp only [List.length_append, List.length_take, List.length_drop, List.length_singleton]; omega
    · rcases List.mem_append.mp hr' with hr' | hr'
      · rcases List.mem_append.mp hr' with hr' | hr'
        · exact hr r (List.mem_of_mem_take hr')
        · rw [List.mem_singleton.mp hr']; exact ⟨(row_mem app4 hz).2.1, rfl⟩
      · exact hr r (List.mem_of_mem_drop hr')
  · rintro σ H5 ⟨v2, n5, ps, rows, rfl, K5, w5, hn5, g5S, g5L, hp, lr, hr⟩
    exact ⟨_, rfl, k L rows H5 n5 ⟨by omega, fun r h => (hr r h).1⟩ (fun r h => (hr r h).2) ⟨ps, g5L, hp⟩ nL K5 w5 (by omega)⟩

/-! ### several new objects at once -/
def putN (H : Hp) (news : List (Addr × HO)) : Hp := fun b => match news.find? fun p => p.1 == b with | some p => some p.2 | none => H b
theorem putN_out {H : Hp} {news : List (Addr × HO)} {b : Addr} (h : b ∉ news.map (·.1)) : putN H news b = H b := by
  unfold putN
  cases e : news.find? fun p => p.1 == b with
  | none => rfl
  | some p => exact absurd (List.mem_map.mpr ⟨p, List.mem_of_find?_eq_some e, eq_of_beq (List.find?_some (p := fun q : Addr × HO => q.1 == b) e)⟩) h
theorem putN_in {H : Hp} {news : List (Addr × HO)} (nd : (news.map (·.1)).Nodup) {p : Addr × HO} (h : p ∈ news) : putN H news p.1 = some p.2 := by
  unfold putN
  cases e : news.find? fun q => q.1 == p.1 with
  | none => exact absurd (List.find?_eq_none.mp e p h) (by simp)
  | some q =>
    have hq := List.mem_of_find?_eq_some e
    have eq : q.1 = p.1 := eq_of_beq (List.find?_some (p := fun q : Addr × HO => q.1 == p.1) e)
    obtain ⟨i, hi⟩ := List.mem_iff_getElem?.mp h
    obtain ⟨j, hj⟩ := List.mem_iff_getElem?.mp hq
    have e1 : (news.map (·.1))[i]? = some p.1 := by rw [List.getElem?_map, hi]; rfl
    have e2 : (news.map (·.1))[j]? = some p.1 := by rw [List.getElem?_map, hj]; exact congrArg some eq
    have ij := (List.getElem?_inj (lt_at e1) nd).mp (e1.trans e2.symm)
    subst ij
    rw [hi] at hj
    cases hj
    rfl
theorem lay_all {X : Cx} {pins : List (Addr × Obj)} {σ : L2.St} {H : Hp} {s : Shared} {h' : Heap} {t' : Nat} {news : List (Addr × HO)} (I : Inv X pins σ H s) (keep : ∀ b o, s.heap.get? b = some o → h'.get? b = some o) (new : ∀ p ∈ news, s.heap.objs.size ≤ p.1)
    (nd : (news.map (·.1)).Nodup) (ok : ∀ p ∈ news, ObjOk X.prog X.w (putN H news) h' p.1 p.2) : Inv X pins σ (putN H news) { s with heap := h', toks := t' } := by
  have out : ∀ b, b < s.heap.objs.size → b ∉ news.map (·.1) := fun b lt z => by
    obtain ⟨p, hp, e⟩ := List.mem_map.mp z
    have := new p hp
    rw [e] at this
    exact absurd lt (Nat.not_lt.mpr this)
  have kp : ∀ b u, H b = some u → putN H news b = some u := fun b u e => by
    rw [putN_out]
    · exact e
    · intro z
      obtain ⟨p, hp, ep⟩ := List.mem_map.mp z
      have fresh : H p.1 = none := I.hok.fresh (new p hp)
      rw [ep, e] at fresh
      cases fresh
  refine I.call' (ch := []) rfl { keep := fun b o old _ _ _ => keep b o old, slot := fun b o old _ _ _ => ⟨o.slots, keep b o old⟩, free := fun b o old none_ _ => (putN_out (out b (Heap.lt_size old))).trans none_, there := fun b o old _ => ⟨o, keep b o old⟩, tups := fun b xs e => kp b _ e, frzs := fun b o u e => kp b _ e, tbls := fun b ps e => ⟨#[], by rw [kp b _ e]; simp⟩ } (fun b u e => ?_) I.bare fun b z => by simp at z
  by_cases hb : b ∈ news.map (·.1)
  · obtain ⟨p, hp, rfl⟩ := List.mem_map.mp hb
    rw [putN_in nd hp] at e
    cases e
    exact ok p hp
  · rw [putN_out hb] at e
    exact (I.hok b u e).stay (fun d v _ y => keep d v y) (fun d y => kp d _ y) fun d xs y => kp d _ y
/-! ### list(zip(xs, ys)) of two lists -/
theorem zip_len_none : typeLookup (.type "zip") "__len__" = pure none := am_miss_of_fast (by decide +kernel)
theorem zip_hint_none : typeLookup (.type "zip") "__length_hint__" = pure none := am_miss_of_fast (by decide +kernel)
/-- the zip at z has given i pairs, which are all kept -/
structure ZSt (h : Heap) (z TI TO i1 i2 l1 l2 S : Addr) (xs ys : Array Value) (i : Nat) : Prop where
  ti : IsPair h TI (.ref i1) (.ref i2)
  one : h.IsListIter i1 l1 i
  two : h.IsListIter i2 l2 i
  at1 : h.IsList l1 xs
  at2 : h.IsList l2 ys
  zip : (IsZip h z TI TO .none ∧ ∃ a b, IsPair h TO a b) ∨ ∃ T f oT, PySem.IsZipHeld h z TI TO T f ∧ h.get? T = some oT ∧ T ≠ z ∧ T ≠ i1 ∧ T ≠ i2 ∧ T ≠ S
/-- the list that is filled is none of the zip's objects -/
structure ZOff (z TI TO i1 i2 l1 l2 S : Addr) : Prop where
  z_ : z ≠ S
  ti : TI ≠ S
  to_ : TO ≠ S
  one : i1 ≠ S
  two : i2 ≠ S
  at1 : l1 ≠ S
  at2 : l2 ≠ S
section
variable {P : Program} {w : World} {A : Around} {E : Value → Shared → Prop} {s : Shared} {z TI TO i1 i2 l1 l2 S : Addr} {xs ys : Array Value} {i : Nat}
theorem ZSt.kept {h h' : Heap} (st : ZSt h z TI TO i1 i2 l1 l2 S xs ys i) (F : ZOff z TI TO i1 i2 l1 l2 S) (k : ∀ b o, b ≠ S → h.get? b = some o → h'.get? b = some o) : ZSt h' z TI TO i1 i2 l1 l2 S xs ys i where
  ti := k _ _ F.ti st.ti
  one := st.one.at fun o e => k _ o F.one e
  two := st.two.at fun o e => k _ o F.two e
  at1 := st.at1.at fun o e => k _ o F.at1 e
  at2 := st.at2.at fun o e => k _ o F.at2 e
  zip := match st.zip with
    | .inl ⟨a, x, y, b⟩ => .inl ⟨k _ _ F.z_ a, x, y, k _ _ F.to_ b⟩
    | .inr ⟨T, f, oT, a, b, c1, c2, c3, c4⟩ => .inr ⟨T, f, oT, k _ _ F.z_ a, k _ _ c4 b, c1, c2, c3, c4⟩
theorem ZSt.next {x y : Value} {Q : Option Value → Shared → Prop} (st : ZSt s.heap z TI TO i1 i2 l1 l2 S xs ys i) (D : ZipApart z TI TO i1 i2 l1 l2) (there : S < s.heap.objs.size) (ex : xs[i]? = some x) (ey : ys[i]? = some y)
    (q : ∀ h', ZSt h' z TI TO i1 i2 l1 l2 S xs ys (i + 1) → IsPair h' s.heap.objs.size x y → (∀ c o, c ∉ [z, TO, i1, i2] → s.heap.get? c = some o → h'.get? c = some o) → Q (some (.ref s.heap.objs.size)) { s with heap := h' }) : wpAny (model P w) A (pyNext (.ref z)) Q E s := by
  have new : ∀ {c o}, s.heap.get? c = some o → s.heap.objs.size ≠ c := fun e => Nat.ne_of_gt (Heap.lt_size e)
  have n1 : s.heap.objs.size ≠ i1 := have ⟨_, e, _⟩ := st.one; new e
  have n2 : s.heap.objs.size ≠ i2 := have ⟨_, e, _⟩ := st.two; new e
  match st.zip with
  | .inl ⟨hz, a, b, hTO⟩ =>
    refine wpAny_pyNext_zip_item D hz st.ti hTO st.one st.two st.at1 st.at2 ex ey fun h' a1 a2 a3 a4 a5 a6 hk => ?_
    have keep : ∀ c o, c ∉ [z, TO, i1, i2] → s.heap.get? c = some o → h'.get? c = some o := fun c o nc e => by
      simp only [List.mem_cons, List.not_mem_nil, or_false, not_or] at nc
      exact hk c o nc.1 nc.2.1 nc.2.2.1 nc.2.2.2 e
    exact q h' ⟨hk _ _ D.TIz D.TITO D.TIi1 D.TIi2 st.ti, a3, a4, st.at1.at fun o e => hk _ o D.l1z D.l1TO D.l1i1 D.l1i2 e, st.at2.at fun o e => hk _ o D.l2z D.l2TO D.l2i1 D.l2i2 e, .inr ⟨_, false, _, a1, a5, new hz, n1, n2, Nat.ne_of_gt there⟩⟩ a5 keep
  | .inr ⟨T, f, oT, hz, hT, r1, r2, r3, r4⟩ =>
    refine PySem.wpAny_pyNext_zip_item_held D hz hT st.ti st.one st.two st.at1 st.at2 ex ey fun h' a1 a3 a4 a5 a6 hk => ?_
    have keep : ∀ c o, c ∉ [z, TO, i1, i2] → s.heap.get? c = some o → h'.get? c = some o := fun c o nc e => by
      simp only [List.mem_cons, List.not_mem_nil, or_false, not_or] at nc
      exact hk c o nc.1 nc.2.2.1 nc.2.2.2 e
    exact q h' ⟨hk _ _ D.TIz D.TIi1 D.TIi2 st.ti, a3, a4, st.at1.at fun o e => hk _ o D.l1z D.l1i1 D.l1i2 e, st.at2.at fun o e => hk _ o D.l2z D.l2i1 D.l2i2 e, .inr ⟨T, true, oT, a1, hk _ _ r1 r2 r3 hT, r1, r2, r3, r4⟩⟩ a5 keep
theorem ZSt.over {Q : Option Value → Shared → Prop} (calm : A.handled = none) (st : ZSt s.heap z TI TO i1 i2 l1 l2 S xs ys i) (D : ZipApart z TI TO i1 i2 l1 l2) (ex : xs[i]? = none)
    (q : ∀ h', (∀ c o, c ∉ [z, TO, i1, i2] → s.heap.get? c = some o → h'.get? c = some o) → Q none { s with heap := h' }) : wpAny (model P w) A (pyNext (.ref z)) Q E s := by
  match st.zip with
  | .inl ⟨hz, a, b, hTO⟩ =>
    exact wpAny_pyNext_zip_end calm D hz st.ti hTO st.one st.two st.at1 st.at2 (.inl ex) fun h' hk => q h' fun c o nc e => by
      simp only [List.mem_cons, List.not_mem_nil, or_false, not_or] at nc
      exact hk c o nc.1 nc.2.1 nc.2.2.1 nc.2.2.2 e
  | .inr ⟨T, f, oT, hz, hT, r1, r2, r3, r4⟩ =>
    exact PySem.wpAny_pyNext_zip_end_held calm D hz hT st.ti st.one st.two st.at1 st.at2 (.inl ex) fun h' hk => q h' fun c o nc e => by
      simp only [List.mem_cons, List.not_mem_nil, or_false, not_or] at nc
      exact hk c o nc.1 nc.2.2.1 nc.2.2.2 e
/-- the pairs that lie at the addresses as, all above lo -/
structure Gave (lo : Addr) (h : Heap) (as : List Addr) (vs : List (Value × Value)) : Prop where
  rise : as.Pairwise (· < ·)
  high : ∀ a ∈ as, lo ≤ a
  pairs : Paired (fun a v => IsPair h a v.1 v.2) as vs
theorem Gave.moves {lo : Addr} {h h' : Heap} {as : List Addr} {vs : List (Value × Value)} (g : Gave lo h as vs) (k : ∀ b o, lo ≤ b → h.get? b = some o → h'.get? b = some o) : Gave lo h' as vs :=
  ⟨g.rise, g.high, by
    have := g.high
    have p := g.pairs
    clear g
    induction p with
    | nil => exact .nil
    | cons r t more => exact .cons (k _ _ (this _ List.mem_cons_self) r) (more fun a ha => this a (List.mem_cons_of_mem _ ha))⟩
theorem Gave.below {lo : Addr} {h : Heap} {as : List Addr} {vs : List (Value × Value)} (g : Gave lo h as vs) : ∀ a ∈ as, a < h.objs.size := by
  have p := g.pairs
  clear g
  induction p with
  | nil => exact fun a ha => nomatch ha
  | cons r t more => exact fun a ha => (List.mem_cons.mp ha).elim (fun e => e ▸ Heap.lt_size r) (more a)
theorem extend_once {R : Result → Shared → Prop} {res : Value} (h : wpAny (model P w) A.in1 (Builtin.«list.extend.loop» ⟨[.ref S, .ref z, res], []⟩) (fun fin s' => match fin with | .done fl => R (.ok fl) s' | .again c => c.quiet = true ∧ codeAny (model P w) A c R s') (fun x s' => R (.error x) s') s) : codeAny (model P w) A (.builtin "list.extend.loop" ⟨[.ref S, .ref z, res], []⟩) R s :=
  codeAny_builtin PySem.F.entry_extend_loop (by rw [Around.under_plainId PySem.F.plain_extend_loop _]; exact h)
theorem above4 {lo b : Addr} (low : S < lo ∧ z < lo ∧ TO < lo ∧ i1 < lo ∧ i2 < lo) (lb : lo ≤ b) : b ∉ [z, TO, i1, i2] := by
  simp only [List.mem_cons, List.not_mem_nil, or_false, not_or]
  exact ⟨Nat.ne_of_gt (Nat.lt_of_lt_of_le low.2.1 lb), Nat.ne_of_gt (Nat.lt_of_lt_of_le low.2.2.1 lb), Nat.ne_of_gt (Nat.lt_of_lt_of_le low.2.2.2.1 lb), Nat.ne_of_gt (Nat.lt_of_lt_of_le low.2.2.2.2 lb)⟩
theorem zip_loop {R : Result → Shared → Prop} {res : Value} {lo : Addr} {h0 : Heap} {vs : List (Value × Value)} (calm : A.handled = none) (D : ZipApart z TI TO i1 i2 l1 l2) (F : ZOff z TI TO i1 i2 l1 l2 S) (low : S < lo ∧ z < lo ∧ TO < lo ∧ i1 < lo ∧ i2 < lo)
    (exs : ∀ (j : Nat) (v : Value × Value), vs[j]? = some v → xs[j]? = some v.1 ∧ ys[j]? = some v.2) (len : xs.size = vs.length) (few : vs.length ≤ 100000)
    (fin : ∀ h' acc c as, (∀ b o, b ≠ S → b ∉ [z, TO, i1, i2] → h0.get? b = some o → h'.get? b = some o) → h'.get? S = some { cls := .type "list", dict := none, data := .seq acc c, slots := #[] } → acc.toList = as.map Value.ref → Gave lo h' as vs → R (.ok (.ret res)) { s with heap := h' }) :
    ∀ (rest done : List (Value × Value)) (h : Heap) (acc : Array Value) (c : Nat) (as : List Addr), done ++ rest = vs → ZSt h z TI TO i1 i2 l1 l2 S xs ys done.length → (∀ b o, b ≠ S → b ∉ [z, TO, i1, i2] → h0.get? b = some o → h.get? b = some o) →
      h.get? S = some { cls := .type "list", dict := none, data := .seq acc c, slots := #[] } → acc.toList = as.map Value.ref → Gave lo h as done → lo ≤ h.objs.size → codeAny (model P w) A (.builtin "list.extend.loop" ⟨[.ref S, .ref z, res], []⟩) R { s with heap := h }
  | [], done, h, acc, c, as, all, st, keep, at_, items, g, big => by
    rw [List.append_nil] at all; subst all
    refine extend_once (wpAny_bind (ZSt.over (s := { s with heap := h }) calm st D (Array.getElem?_eq_none (by omega)) fun h' hk => wpAny_pure (fin h' acc c as (fun b o n1 n2 e => hk b o n2 (keep b o n1 n2 e)) ?_ items (g.moves fun b o lb e => hk b o ?_ e))))
    · refine hk _ _ ?_ at_
      simp only [List.mem_cons, List.not_mem_nil, or_false, not_or]
      exact ⟨F.z_.symm, F.to_.symm, F.one.symm, F.two.symm⟩
    · exact above4 low lb
  | v :: rest, done, h, acc, c, as, all, st, keep, at_, items, g, big => by
    have ev : vs[done.length]? = some v := by rw [← all, List.getElem?_append_right (Nat.le_refl _), Nat.sub_self]; rfl
    obtain ⟨ex, ey⟩ := exs _ _ ev
    have lt := lt_at ev
    have size : acc.size = done.length := by
      have a := congrArg List.length items
      rw [Array.length_toList, List.length_map] at a
      rw [a, paired_len g.pairs]
    refine extend_once (wpAny_bind (ZSt.next (s := { s with heap := h }) st D (Heap.lt_size at_) ex ey fun h' st' pair hk => ?_))
    have off : S ∉ [z, TO, i1, i2] := by
      simp only [List.mem_cons, List.not_mem_nil, or_false, not_or]
      exact ⟨F.z_.symm, F.to_.symm, F.one.symm, F.two.symm⟩
    have at' := hk _ _ off at_
    have up : ∀ b o, b ≠ S → h'.get? b = some o → (h'.update S (Obj.mapSeq (·.push (Value.ref h.objs.size)))).get? b = some o := fun b o nb e => (Heap.get?_update_other _ _ (Ne.symm nb)).trans e
    have neS : ∀ b, lo ≤ b → b ≠ S := fun b lb => Nat.ne_of_gt (Nat.lt_of_lt_of_le low.1 lb)
    have g' : Gave lo (h'.update S (Obj.mapSeq (·.push (Value.ref h.objs.size)))) (as ++ [h.objs.size]) (done ++ [v]) := by
      have g1 := g.moves (h' := h') fun b o lb e => hk b o (above4 low lb) e
      have g2 := g1.moves (h' := h'.update S (Obj.mapSeq (·.push (Value.ref h.objs.size)))) fun b o lb e => up b o (neS b lb) e
      refine ⟨List.pairwise_append.mpr ⟨g.rise, List.pairwise_singleton _ _, fun a ha b hb => by rw [List.mem_singleton.mp hb]; exact g.below a ha⟩, fun a ha => ?_, paired_snoc (F := fun (a : Addr) (v : Value × Value) => IsPair (h'.update S (Obj.mapSeq (·.push (Value.ref h.objs.size)))) a v.1 v.2) (up _ _ (neS _ big) pair) g2.pairs⟩
      rcases List.mem_append.mp ha with ha | ha
      · exact g.high a ha
      · rw [List.mem_singleton.mp ha]; exact big
    show wpAny _ A.in1 (updateSeq S (·.push (Value.ref h.objs.size)) >>= _) _ _ _
    refine wpAny_bind (wpAny_updateSeq at' rfl (wpAny_pure ⟨plainId_quiet PySem.F.plain_extend_loop _, ?_⟩) (by rw [sizeLine_eq]; omega) (by show (acc.push _).size ≤ sizeLine + 1; rw [Array.size_push, sizeLine_eq]; omega))
    refine zip_loop calm D F low exs len few fin rest (done ++ [v]) _ (acc.push (Value.ref h.objs.size)) _ (as ++ [h.objs.size]) (by rw [List.append_assoc]; exact all) (by rw [List.length_append]; exact st'.kept F up) (fun b o n1 n2 e => up b o n1 (hk b o n2 (keep b o n1 n2 e))) (Heap.get?_update_self _ at' rfl) (by rw [Array.toList_push, items, List.map_append]; rfl) g' ?_
    exact Nat.le_of_lt (Nat.lt_of_le_of_lt big (Heap.lt_size (up _ _ (neS _ big) pair)))
/-- list(the zip), at the model's level: its pairs lie above the new list -/
theorem zip_call {Q : Value → Shared → Prop} {vs : List (Value × Value)} (calm : A.handled = none) (D : ZipApart z TI TO i1 i2 l1 l2) (low : z < s.heap.objs.size ∧ TI < s.heap.objs.size ∧ TO < s.heap.objs.size ∧ i1 < s.heap.objs.size ∧ i2 < s.heap.objs.size ∧ l1 < s.heap.objs.size ∧ l2 < s.heap.objs.size)
    (hz : IsZip s.heap z TI TO .none) (hTI : IsPair s.heap TI (.ref i1) (.ref i2)) (hTO : IsPair s.heap TO .none .none) (h1 : s.heap.IsListIter i1 l1 0) (h2 : s.heap.IsListIter i2 l2 0) (a1 : s.heap.IsList l1 xs) (a2 : s.heap.IsList l2 ys)
    (exs : ∀ (j : Nat) (v : Value × Value), vs[j]? = some v → xs[j]? = some v.1 ∧ ys[j]? = some v.2) (len : xs.size = vs.length) (few : vs.length ≤ 100000)
    (q : ∀ h' acc c as, (∀ b o, b ∉ [z, TO, i1, i2] → s.heap.get? b = some o → h'.get? b = some o) → h'.get? s.heap.objs.size = some { cls := .type "list", dict := none, data := .seq acc c, slots := #[] } → acc.toList = as.map Value.ref → Gave (s.heap.objs.size + 1) h' as vs → Q (.ref s.heap.objs.size) { s with heap := h' }) :
    wpAny (model P w) A (call (.type "list") [.ref z]) Q E s := by
  have F : ZOff z TI TO i1 i2 l1 l2 s.heap.objs.size := ⟨Nat.ne_of_lt low.1, Nat.ne_of_lt low.2.1, Nat.ne_of_lt low.2.2.1, Nat.ne_of_lt low.2.2.2.1, Nat.ne_of_lt low.2.2.2.2.1, Nat.ne_of_lt low.2.2.2.2.2.1, Nat.ne_of_lt low.2.2.2.2.2.2⟩
  refine callType_codes (Q₁ := fun o s1 => o = .ref s.heap.objs.size ∧ s1 = { s with heap := s.heap.push { cls := .type "list", data := .seq #[] } }) PySem.F.called_list (PySem.F.typeCall_list_1 _) PySem.F.entry_list_init (code_list_new _ ⟨rfl, rfl⟩) fun o s1 ⟨eo, es⟩ => ?_
  subst eo; subst es
  have at0 : (s.heap.push { cls := .type "list", data := .seq #[] }).get? s.heap.objs.size = some { cls := .type "list", data := .seq #[] } := Heap.get?_push_size _ rfl
  refine ⟨⟨_, at0, rfl⟩, PySem.F.args_list_init_2 _ _, ?_⟩
  have k0 : ∀ b o, s.heap.get? b = some o → (s.heap.push { cls := .type "list", data := .seq #[] }).get? b = some o := fun b o e => Heap.get?_push_of_some _ e
  have st0 : ZSt (s.heap.push { cls := .type "list", data := .seq #[] }) z TI TO i1 i2 l1 l2 s.heap.objs.size xs ys 0 := ⟨k0 _ _ hTI, h1.at fun o e => k0 _ o e, h2.at fun o e => k0 _ o e, a1.at fun o e => k0 _ o e, a2.at fun o e => k0 _ o e, .inl ⟨k0 _ _ hz, _, _, k0 _ _ hTO⟩⟩
  have size0 : (s.heap.push { cls := .type "list", data := .seq #[] }).objs.size = s.heap.objs.size + 1 := Heap.size_push ..
  generalize s.heap.push { cls := .type "list", data := .seq #[] } = hp at at0 st0 k0 size0 ⊢
  show wpAny _ _ (Builtin.List.listItems (.ref s.heap.objs.size) >>= fun old => Builtin.List.listUpdate (.ref s.heap.objs.size) (fun _ => #[]) >>= fun _ => letGo old.toList.reverse >>= fun _ => Builtin.List.listExtendWith (.ref s.heap.objs.size) (.ref z) .none) _ _ _
  refine wpAny_bind ?_; delta Builtin.List.listItems; refine wpAny_bind (wpAny_seqItems at0 rfl (wpAny_pure ?_))
  refine wpAny_bind (show wpAny _ _ (updateSeq s.heap.objs.size fun _ => #[]) _ _ _ from wpAny_updateSeq at0 rfl (wpAny_bind (wpAny_letGo ?_)))
  have at1 := Heap.get?_update_self (Obj.mapSeq (fun _ => (#[] : Array Value))) at0 rfl
  have k1 : ∀ b o, b ≠ s.heap.objs.size → hp.get? b = some o → (hp.update s.heap.objs.size (Obj.mapSeq (fun _ => (#[] : Array Value)))).get? b = some o := fun b o nb e => (Heap.get?_update_other _ _ (Ne.symm nb)).trans e
  have st1 := st0.kept F k1
  have size1 : (hp.update s.heap.objs.size (Obj.mapSeq (fun _ => (#[] : Array Value)))).objs.size = s.heap.objs.size + 1 := (Heap.size_after_update ..).trans size0
  generalize hp.update s.heap.objs.size (Obj.mapSeq (fun _ => (#[] : Array Value))) = hq at at1 st1 k1 size1 ⊢
  have hz1 : IsZip hq z TI TO .none := k1 _ _ F.z_ (k0 _ _ hz)
  delta Builtin.List.listExtendWith
  dsimp only
  refine wpAny_bind (wpAny_typeOf (T := "zip") ⟨_, hz1, rfl⟩ ?_)
  have c1 : Builtin.List.listSameRef (.ref s.heap.objs.size) (.ref z) = false := by simp [Builtin.List.listSameRef, F.z_.symm]
  have c2 : (Value.type "zip" == Value.type "list") = false := by decide
  have c3 : (Value.type "zip" == Value.type "tuple") = false := by decide
  simp only [c1, c2, c3, Bool.or_false, Bool.false_eq_true, if_false]
  refine wpAny_bind (wpAny_pyIter_zip hz1 (wpAny_bind (wpAny_holding ?_)))
  delta Builtin.List.listLengthHint
  dsimp only
  refine wpAny_bind (wpAny_specialOf (T := "zip") ⟨_, hz1, rfl⟩ zip_len_none (wpAny_bind (wpAny_specialOf (T := "zip") ⟨_, hz1, rfl⟩ zip_hint_none (wpAny_pure ?_))))
  rw [Bool.true_or, if_pos rfl]
  refine wpAny_bind (wpAny_rule (wpAny_bind (show wpAny _ _ (updateSeq s.heap.objs.size (·.push .none) >>= fun _ => updateSeq s.heap.objs.size (·.pop)) _ _ _ from wpAny_bind (wpAny_updateSeq at1 rfl ?_))))
  have at2 := Heap.get?_update_self (Obj.mapSeq (·.push Value.none)) at1 rfl
  refine wpAny_updateSeq at2 rfl (wpAny_pure ⟨plainId_quiet PySem.F.plain_extend_loop _, ?_⟩)
  have at3 := Heap.get?_update_self (Obj.mapSeq (·.pop)) at2 rfl
  have k3 : ∀ b o, b ≠ s.heap.objs.size → hq.get? b = some o → ((hq.update s.heap.objs.size (Obj.mapSeq (·.push Value.none))).update s.heap.objs.size (Obj.mapSeq (·.pop))).get? b = some o := fun b o nb e => (Heap.get?_update_other _ _ (Ne.symm nb)).trans ((Heap.get?_update_other _ _ (Ne.symm nb)).trans e)
  have size3 : ((hq.update s.heap.objs.size (Obj.mapSeq (·.push Value.none))).update s.heap.objs.size (Obj.mapSeq (·.pop))).objs.size = s.heap.objs.size + 1 := (Heap.size_after_update ..).trans ((Heap.size_after_update ..).trans size1)
  have lt1 : ∀ {b : Addr}, b < s.heap.objs.size → b < s.heap.objs.size + 1 := fun h => Nat.lt_succ_of_lt h
  refine zip_loop (A := A.in1) (s := s) (R := wants (fun r s2 => r = .none ∧ Q (.ref s.heap.objs.size) s2) E) (res := .none) (h0 := s.heap) (lo := s.heap.objs.size + 1) calm D F ⟨Nat.lt_succ_self _, lt1 low.1, lt1 low.2.2.1, lt1 low.2.2.2.1, lt1 low.2.2.2.2.1⟩ exs len few (fun h' acc c as keep at_ items g => ⟨rfl, q h' acc c as (fun b o nb e => keep b o (Nat.ne_of_lt (Heap.lt_size e)) nb e) at_ items g⟩) vs [] _ #[] _ [] rfl (st1.kept F k3) (fun b o nb _ e => k3 b o nb (k1 b o nb (k0 b o e))) at3 rfl ⟨.nil, (fun a ha => nomatch ha), .nil⟩ (by rw [size3]; exact Nat.le_refl _)
end

theorem zip_vals : ∀ {xs ys : List V} {us vs : List Value}, Vals xs us → Vals ys vs → Paired (fun (q : V × V) (v : Value × Value) => RelV q.1 v.1 ∧ RelV q.2 v.2) (xs.zip ys) (us.zip vs)
  | _, _, _, _, .nil, _ => .nil
  | _, _, _, _, .cons _ _, .nil => .nil
  | _, _, _, _, .cons a t, .cons b u => .cons ⟨a, b⟩ (zip_vals t u)
/-- the new list at lo and its new pairs, tracked -/
theorem pairs_laid {X : Cx} {pins : List (Addr × Obj)} {σ : L2.St} {H : Hp} {s : Shared} {h' : Heap} {t' : Nat} {lo : Addr} {xs ys : List V} {us vs : List Value} {as : List Addr} {acc : Array Value} {c : Nat} (I : Inv X pins σ H s) (keep : ∀ b o, s.heap.get? b = some o → h'.get? b = some o) (big : s.heap.objs.size ≤ lo)
    (v1 : Vals xs us) (v2 : Vals ys vs) (len : xs.length = ys.length) (few : xs.length ≤ 100000) (g : Gave (lo + 1) h' as (us.zip vs)) (at_ : h'.get? lo = some { cls := .type "list", dict := none, data := .seq acc c, slots := #[] }) (items : acc.toList = as.map Value.ref) :
    ∃ H' : Hp, Same H H' ∧ H' lo = some (.lst (as.map V.ref)) ∧ Paired (fun t q => H' t = some (.tup [q.1, q.2])) as (xs.zip ys) ∧ Inv X pins σ H' { s with heap := h', toks := t' } := by
  have zv := zip_vals v1 v2
  have la : as.length = (xs.zip ys).length := by rw [paired_len g.pairs, paired_len zv]
  have nlo : lo ∉ as := fun z => absurd (g.high lo z) (Nat.not_le.mpr (Nat.lt_succ_self lo))
  have nda : as.Nodup := g.rise.imp fun h => Nat.ne_of_lt h
  -- news
  have names : ((lo, HO.lst (as.map V.ref)) :: List.zipWith (fun t q => (t, HO.tup [q.1, q.2])) as (xs.zip ys)).map (·.1) = lo :: as := by
    rw [List.map_cons, List.map_zipWith]
    congr 1
    have : ∀ (as : List Addr) (qs : List (V × V)), as.length = qs.length → List.zipWith (fun (t : Addr) (q : V × V) => (t, HO.tup [q.1, q.2]).1) as qs = as := fun as => by
      induction as with
      | nil => intro qs _; rfl
      | cons a as more =>
        intro qs h
        match qs, h with
        | q :: qs, h => rw [List.zipWith_cons_cons, more qs (Nat.succ.inj h)]
    exact this as (xs.zip ys) la
  have nd : (((lo, HO.lst (as.map V.ref)) :: List.zipWith (fun t q => (t, HO.tup [q.1, q.2])) as (xs.zip ys)).map (·.1)).Nodup := by rw [names]; exact List.nodup_cons.mpr ⟨nlo, nda⟩
  have pin : Paired (fun t (q : V × V) => (t, HO.tup [q.1, q.2]) ∈ (lo, HO.lst (as.map V.ref)) :: List.zipWith (fun t q => (t, HO.tup [q.1, q.2])) as (xs.zip ys)) as (xs.zip ys) := by
    have : ∀ (as : List Addr) (qs : List (V × V)) (big : List (Addr × HO)), as.length = qs.length → (∀ p ∈ List.zipWith (fun (t : Addr) (q : V × V) => (t, HO.tup [q.1, q.2])) as qs, p ∈ big) → Paired (fun t (q : V × V) => (t, HO.tup [q.1, q.2]) ∈ big) as qs := fun as => by
      induction as with
      | nil =>
        intro qs big h _
        match qs, h with
        | [], _ => exact .nil
      | cons a as more =>
        intro qs big h sub
        match qs, h with
        | q :: qs, h => exact .cons (sub _ (by rw [List.zipWith_cons_cons]; exact List.mem_cons_self)) (more qs big (Nat.succ.inj h) fun p hp => sub p (by rw [List.zipWith_cons_cons]; exact List.mem_cons_of_mem _ hp))
    exact this as (xs.zip ys) _ la fun p hp => List.mem_cons_of_mem _ hp
  have objs : ∀ p ∈ List.zipWith (fun (t : Addr) (q : V × V) => (t, HO.tup [q.1, q.2])) as (xs.zip ys), lo ≤ p.1 ∧ ∀ H2 : Hp, ObjOk X.prog X.w H2 h' p.1 p.2 := by
    have : ∀ {as : List Addr} {qs : List (V × V)} {zs : List (Value × Value)}, Paired (fun a v => IsPair h' a v.1 v.2) as zs → Paired (fun (q : V × V) (v : Value × Value) => RelV q.1 v.1 ∧ RelV q.2 v.2) qs zs → (∀ a ∈ as, lo + 1 ≤ a) → ∀ p ∈ List.zipWith (fun (t : Addr) (q : V × V) => (t, HO.tup [q.1, q.2])) as qs, lo ≤ p.1 ∧ ∀ H2 : Hp, ObjOk X.prog X.w H2 h' p.1 p.2 := fun {as qs zs} h1 h2 hi => by
      induction h1 generalizing qs with
      | nil => intro p hp; rw [List.zipWith_nil_left] at hp; cases hp
      | cons r t more =>
        intro p hp
        cases h2 with
        | cons r' t' =>
          rw [List.zipWith_cons_cons] at hp
          rcases List.mem_cons.mp hp with e | hp
          · subst e
            exact ⟨Nat.le_of_succ_le (hi _ List.mem_cons_self), fun H2 => ⟨by show 2 ≤ sizeLine; decide, [_, _], .cons r'.1 (.cons r'.2 .nil), ⟨_, r, rfl, _, rfl⟩⟩⟩
          · exact more t' (fun a ha => hi a (List.mem_cons_of_mem _ ha)) p hp
    exact this g.pairs zv g.high
  refine ⟨putN H ((lo, HO.lst (as.map V.ref)) :: List.zipWith (fun t q => (t, HO.tup [q.1, q.2])) as (xs.zip ys)), fun b o e => ?_, putN_in nd List.mem_cons_self, Paired.mono (fun t q hq => putN_in nd hq) pin, lay_all I keep (fun p hp => ?_) nd fun p hp => ?_⟩
  · rw [putN_out]
    · exact e
    · rw [names]
      intro z
      have hb : lo ≤ b := by
        rcases List.mem_cons.mp z with q | q
        · rw [q]; exact Nat.le_refl _
        · exact Nat.le_of_succ_le (g.high b q)
      have fresh : H b = none := I.hok.fresh (Nat.le_trans big hb)
      rw [e] at fresh
      cases fresh
  · rcases List.mem_cons.mp hp with q | q
    · rw [q]; exact big
    · exact Nat.le_trans big (objs p q).1
  · rcases List.mem_cons.mp hp with q | q
    · rw [q]
      have lz : (xs.zip ys).length ≤ 100000 := by rw [List.length_zip]; omega
      exact ⟨by rw [List.length_map, la]; exact Nat.le_of_lt (small6 lz), acc.toList, c, by rw [items]; exact LiI.vals_refs as, by rw [Array.toArray_toList]; exact at_⟩
    · exact (objs p q).2 _
/-- list(zip(e1, e2)) -/
def tListZip (K : PySem.W.Frag) (ta : TA) : TE := fun σ H Q => ta σ H fun vs H1 => ∃ (a b : Addr) (xs ys : List V), vs = [.ref a, .ref b] ∧ SqL K H1 a xs ∧ SqL K H1 b ys ∧ xs.length = ys.length ∧ xs.length ≤ 100000 ∧
  ∀ (p : Addr) (ts : List Addr) (H' : Hp), Same H1 H' → H1 p = none → H' p = some (.lst (ts.map V.ref)) → Paired (fun t q => H' t = some (.tup [q.1, q.2])) ts (xs.zip ys) → Q (.ref p) H'
theorem pe_listZip {X : Cx} {e e2 : Expr} {ta : TA} {p p2 pos pos2 : Pos} (calm : X.calm = true) (hg : Gl X "list") (hm : X.mg "list" = none) (hv : bootBuiltins "list" = some (.type "list")) (hg2 : Gl X "zip") (hm2 : X.mg "zip" = none) (ha : PA X [e, e2] ta)
    (hs : starEach [.Call (.Name "zip" p2) [e, e2] [] pos2] X.env = (false, eval (.Call (.Name "zip" p2) [e, e2] [] pos2) X.env) :: starEach [] X.env := by rfl) (hs2 : starEach [e, e2] X.env = (false, eval e X.env) :: starEach [e2] X.env := by rfl) (hpl : (backTo pos2 (starEach [e2] X.env)).any (·.1) = false := by rfl) :
    PE X (.Call (.Name "list" p) [.Call (.Name "zip" p2) [e, e2] [] pos2] [] pos) (tListZip X.K ta) := by
  refine ⟨fun pins s σ H Q I want => ?_⟩
  refine wpAny_Call_Name_kw (ld_blt I hg hm hv ?_)
  refine PyProof.Rows.callWith_type1 ?_ hs rfl
  rw [hs]
  show wpAny _ _ (spliced ((false, eval (.Call (.Name "zip" p2) [e, e2] [] pos2) X.env) :: backTo pos (starEach [] X.env))) _ _ s
  refine Calls.spliced_cons ?_
  refine wpAny_Call_Name_kw (ld_blt I hg2 hm2 PyProof.Rows.boot_zip ?_)
  refine PyProof.Rows.callWith_type1 (thn (ha.run pos2 pins s σ H _ I want) fun us s1 ⟨vs, H1, I1, rel, a, b, xs, ys, ev, q1, q2, len, few, told⟩ => ?_) hs2 hpl
  subst ev
  cases rel with
  | cons r1 rr =>
    cases rr with
    | cons r2 rr =>
      cases rr
      cases r1
      cases r2
      obtain ⟨us1, v1, p1, _⟩ := I1.list q1
      obtain ⟨us2, v2, p2, _⟩ := I1.list q2
      refine call_zip_2 p1.isList p2.isList fun h2 hz hTI hTO i1 i2 size keep => Calls.spliced_nil ?_
      have le1 := v1.length
      have le2 := v2.length
      have la := p1.lt
      have lb := p2.lt
      have below : ∀ k, k < 5 → s1.heap.objs.size + k < h2.objs.size := fun k hk => by rw [size]; exact Nat.add_lt_add_left hk _
      have old : ∀ {b : Addr}, b < s1.heap.objs.size → b < h2.objs.size := fun hb => by rw [size]; exact Nat.lt_add_right _ hb
      refine zip_call (s := { s1 with heap := h2 }) (vs := us1.zip us2) (I1.ok.hd calm) (PySem.W.ktu_apart s1.heap.objs.size a b la lb) ⟨below 4 (by decide), below 2 (by decide), below 3 (by decide), below 0 (by decide), below 1 (by decide), old la, old lb⟩
        hz hTI hTO i1 i2 (p1.isList.at fun o e => keep _ o e) (p2.isList.at fun o e => keep _ o e) (fun j v hv => ?_) ?_ ?_ fun h3 acc c as keep3 at_ items g => ?_
      · rw [List.getElem?_zip_eq_some] at hv
        exact ⟨by rw [List.getElem?_toArray]; exact hv.1, by rw [List.getElem?_toArray]; exact hv.2⟩
      · rw [List.size_toArray, List.length_zip]; omega
      · rw [List.length_zip]; omega
      · have far : ∀ k, k < 5 → h2.objs.size ≠ s1.heap.objs.size + k := fun k hk => Nat.ne_of_gt (below k hk)
        have keep4 : ∀ b o, s1.heap.get? b = some o → h3.get? b = some o := fun b o e => by
          refine keep3 b o ?_ (keep b o e)
          have lt := Heap.lt_size e
          simp only [List.mem_cons, List.not_mem_nil, or_false, not_or]
          exact ⟨Nat.ne_of_lt (Nat.lt_add_right 4 lt), Nat.ne_of_lt (Nat.lt_add_right 3 lt), Nat.ne_of_lt lt, Nat.ne_of_lt (Nat.lt_add_right 1 lt)⟩
        have laid := pairs_laid (t' := s1.toks) (lo := h2.objs.size) I1 keep4 (by rw [size]; exact Nat.le_add_right _ _) v1 v2 (by omega) (by omega) g at_ items
        obtain ⟨H', S', gp, pr, J⟩ := laid
        exact ⟨.ref _, H', J, rfl, told _ as H' S' (I1.hok.fresh (by rw [size]; exact Nat.le_add_right _ _)) gp pr⟩

/-! ### the labels that are tried here are enough -/
def canon (f : Str → Option Str) (ms : List Str) : Lb := ms.filterMap fun n => (f n).map fun x => (n, x)
theorem canon_in {xs : List Str} {f : Str → Option Str} (hf : ∀ n x, f n = some x → x ∈ xs) : ∀ (ms : List Str) (acc : List Lb) (l : Lb), l ∈ acc → l ++ canon f ms ∈ ms.foldl (growL xs) acc
  | [], acc, l, h => by rw [show canon f [] = [] from rfl, List.append_nil]; exact h
  | n :: ms, acc, l, h => by
    rw [List.foldl_cons]
    cases e : f n with
    | none =>
      have : canon f (n :: ms) = canon f ms := by unfold canon; rw [List.filterMap_cons, e]; rfl
      rw [this]
      exact canon_in hf ms _ l (List.mem_append_left _ h)
    | some x =>
      have : canon f (n :: ms) = (n, x) :: canon f ms := by unfold canon; rw [List.filterMap_cons, e]; rfl
      rw [this, show l ++ (n, x) :: canon f ms = (l ++ [(n, x)]) ++ canon f ms by rw [List.append_assoc]; rfl]
      exact canon_in hf ms _ _ (List.mem_append_right _ (List.mem_flatMap.mpr ⟨l, h, List.mem_map.mpr ⟨x, hf n x e, rfl⟩⟩))
theorem canon_names (f : Str → Option Str) (ms : List Str) : (canon f ms).map (·.1) = ms.filter fun n => (f n).isSome := by
  unfold canon
  induction ms with
  | nil => rfl
  | cons n ms more =>
    rw [List.filterMap_cons, List.filter_cons]
    cases e : f n with
    | none => simpa [e] using more
    | some x => simpa [e] using more
theorem look_canon {f : Str → Option Str} {ms : List Str} (nd : ms.Nodup) {n : Str} (h : n ∈ ms) : look (canon f ms) n = (f n).map V.str := by
  have ndc : ((canon f ms).map (·.1)).Nodup := by rw [canon_names]; exact List.Sublist.nodup List.filter_sublist nd
  cases e : f n with
  | none =>
    refine look_none ?_
    rw [canon_names]
    intro z
    have := (List.mem_filter.mp z).2
    rw [e] at this
    cases this
  | some x => exact look_mem (p := (n, x)) ndc (List.mem_filterMap.mpr ⟨n, h, by rw [e]; rfl⟩)
def nowT : List Str := ["nowhere"]
/-- a row that asks for one of the values -/
def RowV (xs : List Str) (r : Row) : Prop := (r.vb = .is ∨ r.vb = .not) → r.vl ∈ xs ∧ r.vl ≠ "nowhere"
theorem tried_like {xs ns : List Str} (nd : ns.Nodup) (kvs : Lb) : ∃ t ∈ allLab (xs ++ nowT) ns, ∀ r : Row, r.nm ∈ ns → RowV xs r → fulB r (look t r.nm) = fulB r (look kvs r.nm) := by
  let f : Str → Option Str := fun n => match look kvs n with
    | some (.str x) => some (if x ∈ xs then x else "nowhere")
    | _ => none
  have hf : ∀ n x, f n = some x → x ∈ xs ++ nowT := fun n x h => by
    simp only [f] at h
    split at h
    · rename_i y _
      have h := Option.some.inj h
      split at h
      · rw [← h]; exact List.mem_append_left _ (by assumption)
      · rw [← h]; exact List.mem_append_right _ (List.mem_singleton.mpr rfl)
    · cases h
  refine ⟨canon f ns, canon_in hf ns [[]] [] (List.mem_singleton.mpr rfl), fun r hr hv => ?_⟩
  rw [look_canon nd hr]
  cases e : look kvs r.nm with
  | none =>
    have : f r.nm = none := by simp only [f, e]
    rw [this]; rfl
  | some v =>
    obtain ⟨x, rfl⟩ := look_str e
    have hx : f r.nm = some (if x ∈ xs then x else "nowhere") := by simp only [f, e]
    rw [hx]
    show fulB r (some (.str (if x ∈ xs then x else "nowhere"))) = fulB r (some (.str x))
    by_cases m : x ∈ xs
    · rw [if_pos m]
    · rw [if_neg m]
      unfold fulB
      cases ev : r.vb with
      | is =>
        obtain ⟨h1, h2⟩ := hv (.inl ev)
        dsimp only
        rw [decide_eq_false (fun z => h2 (by injection z with z; injection z with z; exact z.symm)), decide_eq_false (fun z => m (by injection z with z; injection z with z; rw [z]; exact h1))]
      | not =>
        obtain ⟨h1, h2⟩ := hv (.inr ev)
        dsimp only
        rw [decide_eq_false (fun z => h2 (by injection z with z; injection z with z; exact z.symm)), decide_eq_false (fun z => m (by injection z with z; injection z with z; rw [z]; exact h1))]
      | there => rfl
      | missing => rfl
theorem ful_like {rs : List Row} {ns : List Str} {t kvs : Lb} {xs : List Str} (h : ∀ r : Row, r.nm ∈ ns → RowV xs r → fulB r (look t r.nm) = fulB r (look kvs r.nm)) (hn : ∀ r ∈ rs, r.nm ∈ ns) (hv : ∀ r ∈ rs, RowV xs r) : fulAll rs t = fulAll rs kvs := by
  unfold fulAll
  have : ∀ (l : List Row), (∀ r ∈ l, r.nm ∈ ns) → (∀ r ∈ l, RowV xs r) → (l.all fun r => fulB r (look t r.nm)) = l.all fun r => fulB r (look kvs r.nm) := fun l => by
    induction l with
    | nil => intro _ _; rfl
    | cons r l more =>
      intro a b
      rw [List.all_cons, List.all_cons, h r (a r List.mem_cons_self) (b r List.mem_cons_self), more (fun q hq => a q (List.mem_cons_of_mem _ hq)) fun q hq => b q (List.mem_cons_of_mem _ hq)]
  exact this rs hn hv
/-- what the law knows of two lists of rows: their names are among ns, their values among xs -/
structure Side (xs ns : List Str) (rs : List Row) : Prop where
  few : Rows8 rs
  nm : ∀ r ∈ rs, r.nm ∈ ns
  vl : ∀ r ∈ rs, RowV xs r
theorem tried_few {xs ns : List Str} (nd : ns.Nodup) (ln : ns.length ≤ 3) {t : Lb} (ht : t ∈ allLab xs ns) : t.length ≤ 8 := by
  obtain ⟨a, b⟩ := allLab_keys xs ns [] [[]] nd (fun t ht => by rw [List.mem_singleton.mp ht]; exact ⟨.nil, fun n hn => by cases hn⟩) t ht
  have := within_len a b
  rw [List.length_map, List.nil_append] at this
  omega
def hitB (tried : List Lb) (x : Bool) (mine its : List Row) : Bool := tried.any fun t => (fulAll mine t == x) && fulAll its t
section
variable {xs ns : List Str} {mine its : List Row} (nd : ns.Nodup) (ln : ns.length ≤ 3) (m : Side xs ns mine) (i : Side xs ns its)
include nd ln m i
theorem meet_none (h : NoB (mine ++ its)) : hitB (allLab (xs ++ nowT) ns) true mine its = false := by
  unfold hitB
  rw [List.any_eq_false]
  intro t ht z
  have a := none_ful h (tried_few nd ln ht)
  rw [fulAll_app] at a
  simp only [beq_true] at z
  rw [z] at a
  cases a
theorem meet_some {bs : List (Str × Bd)} (h : IsB (mine ++ its) bs) : hitB (allLab (xs ++ nowT) ns) true mine its = true ∧ fulAll (mine ++ its) (labelsF bs) = true := by
  have few : (mine ++ its).length ≤ 26 := by rw [List.length_append]; have := m.few.1; have := i.few.1; omega
  have f := labels_ful h few
  refine ⟨?_, f⟩
  obtain ⟨t, ht, like⟩ := tried_like (xs := xs) nd (labelsF bs)
  unfold hitB
  rw [List.any_eq_true]
  refine ⟨t, ht, ?_⟩
  rw [ful_like like m.nm m.vl, ful_like like i.nm i.vl]
  rw [fulAll_app] at f
  simpa using f
theorem cover_none (h : ∀ r ∈ mine, NoB (its ++ [oppR r])) : hitB (allLab (xs ++ nowT) ns) false mine its = false := by
  unfold hitB
  rw [List.any_eq_false]
  intro t ht z
  simp only [beq_false, Bool.and_eq_true, Bool.not_eq_true'] at z
  obtain ⟨r, hr, e⟩ := not_ful.mp z.1
  have a := none_ful (h r hr) (tried_few nd ln ht)
  rw [fulAll_app, z.2, e] at a
  cases a
theorem cover_some {bs : List (Str × Bd)} {r : Row} (hr : r ∈ mine) (h : IsB (its ++ [oppR r]) bs) : hitB (allLab (xs ++ nowT) ns) false mine its = true ∧ fulAll its (labelsF bs) = true ∧ fulAll mine (labelsF bs) = false := by
  have few : (its ++ [oppR r]).length ≤ 26 := by rw [List.length_append]; have := i.few.1; show _ + 1 ≤ 26; omega
  have f := labels_ful h few
  rw [fulAll_app, Bool.and_eq_true] at f
  have f2 : fulAll mine (labelsF bs) = false := not_ful.mpr ⟨r, hr, f.2⟩
  refine ⟨?_, f.1, f2⟩
  obtain ⟨t, ht, like⟩ := tried_like (xs := xs) nd (labelsF bs)
  unfold hitB
  rw [List.any_eq_true]
  refine ⟨t, ht, ?_⟩
  rw [ful_like like m.nm m.vl, ful_like like i.nm i.vl, f.1, f2]
  rfl
omit nd ln m i in
theorem row_n {rs : List Row} (h : Rows8 rs) : ∀ r ∈ rs, RowN r := fun r hr => have f := row_f (h.2 r hr); ⟨f.un, f.lb, f.ln, f.lv⟩
theorem meet_ok {bs : List (Str × Bd)} (h : IsB (mine ++ its) bs) (need : (neededL bs).length ≤ 8) : LabOk (labelsF bs) := by
  refine labels_ok h (by rw [List.length_append]; have := m.few.1; have := i.few.1; omega) need fun r hr => ?_
  rcases List.mem_append.mp hr with hr | hr
  · exact row_n m.few r hr
  · exact row_n i.few r hr
theorem cover_ok {bs : List (Str × Bd)} {r : Row} (hr : r ∈ mine) (h : IsB (its ++ [oppR r]) bs) (need : (neededL bs).length ≤ 8) : LabOk (labelsF bs) := by
  refine labels_ok h (by rw [List.length_append]; have := i.few.1; show _ + 1 ≤ 26; omega) need fun q hq => ?_
  rcases List.mem_append.mp hq with hq | hq
  · exact row_n i.few q hq
  · rw [List.mem_singleton.mp hq]
    exact row_n m.few r hr
end
/-- pairs of truth values as data -/
def pairD (p : Bool × Bool) : PyData := .tuple [.bool p.1, .bool p.2]
theorem pair_eqv (p q : Bool × Bool) : PyData.eqv (pairD p) (pairD q) = (p.1 == q.1 && p.2 == q.2) := by
  obtain ⟨a, b⟩ := p
  obtain ⟨c, d⟩ := q
  cases a <;> cases b <;> cases c <;> cases d <;> simp [pairD, PyData.eqv, PyData.eqvAll]
theorem pairs_shaped : ∀ l : List (Bool × Bool), PyData.canLayAll0 (l.map pairD) = true ∧ PyData.depthAll (l.map pairD) ≤ 1
  | [] => by simp [PyData.canLayAll0, PyData.depthAll]
  | p :: l => by
    obtain ⟨a, b⟩ := pairs_shaped l
    simp only [List.map_cons, pairD, PyData.canLayAll0, PyData.canLay0, PyData.depthAll, PyData.depth]
    refine ⟨by simpa using a, Nat.max_le.mpr ⟨by decide, b⟩⟩
theorem list_shaped (l : List (Bool × Bool)) : SeqAt.shaped (.list (l.map pairD)) = true := by
  obtain ⟨a, b⟩ := pairs_shaped l
  unfold SeqAt.shaped
  simp only [PyData.canLay0, PyData.depth, a, Bool.true_and]
  exact decide_eq_true (by omega)
theorem pair_shaped (p : Bool × Bool) : SeqAt.shaped (pairD p) = true := by obtain ⟨a, b⟩ := p; cases a <;> cases b <;> decide
theorem names3 {ns : List Str} (h : Names ns) : ns.length ≤ 3 := by
  have := within_len h.2.2.1 h.2.2.2
  exact this

/-! ### the parts of a turn -/
def PairsAt (H : Hp) (pp : Addr) (tried : List Lb) (mine its : List Row) : Prop := ∃ ts : List Addr, H pp = some (.lst (ts.map V.ref)) ∧ Paired (fun t (q : Bool × Bool) => H t = some (.tup [.bl q.1, .bl q.2])) ts (tried.map fun t => (fulAll mine t, fulAll its t))
theorem pairs_same {H H' : Hp} {pp : Addr} {tried : List Lb} {mine its : List Row} (s : Same H H') (h : PairsAt H pp tried mine its) : PairsAt H' pp tried mine its := have ⟨ts, h1, h2⟩ := h; ⟨ts, s _ _ h1, Paired.mono (fun _ _ q => s _ _ q) h2⟩
theorem pairs_dp {K : PySem.W.Frag} {H : Hp} {pp : Addr} {tried : List Lb} {mine its : List Row} (h : PairsAt H pp tried mine its) : Dp K H (.ref pp) (.list ((tried.map fun t => (fulAll mine t, fulAll its t)).map pairD)) := by
  obtain ⟨ts, h1, h2⟩ := h
  refine .lst (SqL.of h1) ?_
  clear h1
  generalize tried.map (fun t => (fulAll mine t, fulAll its t)) = qs at h2 ⊢
  induction h2 with
  | nil => exact .nil
  | cons r t more => exact .cons (.tup (SqT.of r) (.cons (.bl _) (.cons (.bl _) .nil))) more
theorem hit_any (tried : List Lb) (mine its : List Row) (x : Bool) : (((tried.map fun t => (fulAll mine t, fulAll its t)).map pairD).any fun z => PyData.eqv z (pairD (x, true))) = hitB tried x mine its := by
  unfold hitB
  rw [List.any_map, List.any_map]
  congr 1
  funext t
  show PyData.eqv (pairD (fulAll mine t, fulAll its t)) (pairD (x, true)) = _
  rw [pair_eqv]
  simp
/-- None, or a new table of labels -/
def ToldV (its : List Row) (H0 H : Hp) (v : V) : Prop := v = .non ∨ ∃ p l, v = .ref p ∧ H0 p = none ∧ H p = some (.dK (labD l)) ∧ LabOk l ∧ fulAll its l = true
theorem tyv_dict {K : PySem.W.Frag} {H : Hp} {p : Addr} {kvs : List (Key × V)} (h : H p = some (.dK kvs)) : tyV K "dict" (.ref p) H := .inr (.inr (.inl ⟨rfl, .inl ⟨_, h⟩⟩))
section
variable {K : PySem.W.Frag} {C : TS} {D : Ends} {H : Hp} {Lm Li pp : Addr} {xs ns : List Str} {mine its : List Row} {s0 s1 s2 s3 s4 s5 s6 s7 s8 s9 s10 s11 s17 s18 s19 s20 s21 : Option V}
theorem part_meets (nd : ns.Nodup) (ln : ns.length ≤ 3) (m : Side xs ns mine) (i : Side xs ns its) (hm : RowsAt H Lm mine) (hi : RowsAt H Li its) (hp : PairsAt H pp (allLab (xs ++ nowT) ns) mine its)
    (k : ∀ (v : V) (H' : Hp), Same H H' → ToldV its H H' v → decide (v = .non) = !hitB (allLab (xs ++ nowT) ns) true mine its → C D [s0, s1, s2, s3, s4, s5, s6, s7, s8, s9, s10, s11, some (.ref Lm), some (.ref Li), some (.str (selT mine)), some (.str (selT its)), some (.ref pp), some v, s18, s19, s20, s21] H') :
    tSeq (tAsg (tCall (sp_meets K) [] E0 (tCons (tVar 14) (tCons (tVar 15) tNil))) (gName 17))
      (tSeq (tIfS (tTest (tOp rNe (tOp (fun x y H Q => y = V.non ∧ Q (V.bl (decide (x = V.non))) H) (tVar 17) (tC V.non)) (tOp (rNotInD K) (tTup (tCons (tC (V.bl true)) (tCons (tC (V.bl true)) tNil))) (tVar 16)))) (tRet (tC (V.bl false))) tNext)
        (tSeq (tIfS (tAnd (tTest (tOp (fun x y H Q => y = V.non ∧ Q (V.bl !decide (x = V.non)) H) (tVar 17) (tC V.non))) (tNot (tB (tCall (sp__law_fulfils K) [] E0 (tCons (tOp rCat (tVar 12) (tVar 13)) (tCons (tVar 17) tNil)))))) (tRet (tC (V.bl false))) tNext) C)) D
      [s0, s1, s2, s3, s4, s5, s6, s7, s8, s9, s10, s11, some (.ref Lm), some (.ref Li), some (.str (selT mine)), some (.str (selT its)), some (.ref pp), s17, s18, s19, s20, s21] H := by
  refine ⟨_, rfl, _, rfl, mine, its, rfl, m.few, i.few, fun nob H1 S1 => ?_, fun bs p H1 isb need S1 fp gp => ?_⟩
  · have hit := meet_none nd ln m i nob
    refine ⟨_, rfl, rfl, smallN (by show 2 ≤ 1000; decide), fun tp qtp => ?_⟩
    have S2 := S1.trans (Same.new (u := .tup [.bl true, .bl true]) qtp)
    refine ⟨_, rfl, pairD (true, true), _, .tup (SqT.of upd_same) (.cons (.bl _) (.cons (.bl _) .nil)), pairs_dp (pairs_same S2 hp), pair_shaped _, list_shaped _, rfl, _, rfl, ?_⟩
    rw [hit_any, hit]
    refine iteF ⟨_, rfl, rfl, _, rfl, iteF (iteF ?_)⟩
    exact k .non _ S2 (.inl rfl) (by rw [hit]; rfl)
  · obtain ⟨hit, ful⟩ := meet_some nd ln m i isb
    have ok := meet_ok nd ln m i isb need
    refine ⟨_, rfl, rfl, smallN (by show 2 ≤ 1000; decide), fun tp qtp => ?_⟩
    have St := Same.new (u := .tup [.bl true, .bl true]) qtp
    have S2 := S1.trans St
    refine ⟨_, rfl, pairD (true, true), _, .tup (SqT.of upd_same) (.cons (.bl _) (.cons (.bl _) .nil)), pairs_dp (pairs_same S2 hp), pair_shaped _, list_shaped _, rfl, _, rfl, ?_⟩
    rw [hit_any, hit]
    refine iteF ⟨_, rfl, rfl, _, rfl, iteT ?_⟩
    obtain ⟨p1, g1, q1⟩ := rows_same S2 hm
    obtain ⟨p2, g2, q2⟩ := rows_same S2 hi
    have l1 := paired_len q1
    have l2 := paired_len q2
    have f1 := m.few.1
    have f2 := i.few.1
    refine ⟨_, rfl, _, rfl, Lm, Li, _, _, rfl, rfl, g1, g2, smallN (by rw [List.length_map, List.length_map, l1, l2]; omega), fun Lc qc => ?_⟩
    have Sc := Same.new (u := .lst (p1.map V.ref ++ p2.map V.ref)) qc
    refine ⟨_, rfl, Lc, p, mine ++ its, labelsF bs, rfl, rows_cat (L1 := Lm) (L2 := Li) q1 q2 qc, Sc _ _ (St _ _ gp), _, rfl, ?_⟩
    rw [ful]
    refine iteF ?_
    exact k (.ref p) _ (S2.trans Sc) (.inr ⟨p, labelsF bs, rfl, fp, Sc _ _ (St _ _ gp), ok, by rw [fulAll_app] at ful; exact (Bool.and_eq_true_iff.mp ful).2⟩) (by rw [hit]; rfl)
theorem part_covers {v : V} (nd : ns.Nodup) (ln : ns.length ≤ 3) (m : Side xs ns mine) (i : Side xs ns its) (hm : RowsAt H Lm mine) (hi : RowsAt H Li its) (hp : PairsAt H pp (allLab (xs ++ nowT) ns) mine its)
    (k : ∀ (v' : V) (H' : Hp), Same H H' → ToldV its H H' v' → decide (v' = .non) = !hitB (allLab (xs ++ nowT) ns) false mine its → C D [s0, s1, s2, s3, s4, s5, s6, s7, s8, s9, s10, s11, some (.ref Lm), some (.ref Li), some (.str (selT mine)), some (.str (selT its)), some (.ref pp), some v, some v', s19, s20, s21] H') :
    tSeq (tAsg (tCall (sp_covers K) [] E0 (tCons (tVar 14) (tCons (tVar 15) tNil))) (gName 18))
      (tSeq (tIfS (tTest (tOp rNe (tOp (fun x y H Q => y = V.non ∧ Q (V.bl (decide (x = V.non))) H) (tVar 18) (tC V.non)) (tOp (rNotInD K) (tTup (tCons (tC (V.bl false)) (tCons (tC (V.bl true)) tNil))) (tVar 16)))) (tRet (tC (V.bl false))) tNext)
        (tSeq (tIfS (tAnd (tTest (tOp (fun x y H Q => y = V.non ∧ Q (V.bl !decide (x = V.non)) H) (tVar 18) (tC V.non))) (tOr (tNot (tB (tCall (sp__law_fulfils K) [] E0 (tCons (tVar 13) (tCons (tVar 18) tNil))))) (tB (tCall (sp__law_fulfils K) [] E0 (tCons (tVar 12) (tCons (tVar 18) tNil)))))) (tRet (tC (V.bl false))) tNext) C)) D
      [s0, s1, s2, s3, s4, s5, s6, s7, s8, s9, s10, s11, some (.ref Lm), some (.ref Li), some (.str (selT mine)), some (.str (selT its)), some (.ref pp), some v, s18, s19, s20, s21] H := by
  refine ⟨_, rfl, _, rfl, mine, its, rfl, m.few, i.few, fun nob H1 S1 => ?_, fun r bs p H1 hr isb need S1 fp gp => ?_⟩
  · have hit := cover_none nd ln m i nob
    refine ⟨_, rfl, rfl, smallN (by show 2 ≤ 1000; decide), fun tp qtp => ?_⟩
    have S2 := S1.trans (Same.new (u := .tup [.bl false, .bl true]) qtp)
    refine ⟨_, rfl, pairD (false, true), _, .tup (SqT.of upd_same) (.cons (.bl _) (.cons (.bl _) .nil)), pairs_dp (pairs_same S2 hp), pair_shaped _, list_shaped _, rfl, _, rfl, ?_⟩
    rw [hit_any, hit]
    refine iteF ⟨_, rfl, rfl, _, rfl, iteF (iteF ?_)⟩
    exact k .non _ S2 (.inl rfl) (by rw [hit]; rfl)
  · obtain ⟨hit, ful1, ful2⟩ := cover_some nd ln m i hr isb
    have ok := cover_ok nd ln m i hr isb need
    refine ⟨_, rfl, rfl, smallN (by show 2 ≤ 1000; decide), fun tp qtp => ?_⟩
    have St := Same.new (u := .tup [.bl false, .bl true]) qtp
    have S2 := S1.trans St
    refine ⟨_, rfl, pairD (false, true), _, .tup (SqT.of upd_same) (.cons (.bl _) (.cons (.bl _) .nil)), pairs_dp (pairs_same S2 hp), pair_shaped _, list_shaped _, rfl, _, rfl, ?_⟩
    rw [hit_any, hit]
    refine iteF ⟨_, rfl, rfl, _, rfl, iteT ?_⟩
    refine ⟨_, rfl, _, rfl, Li, p, its, labelsF bs, rfl, rows_same S2 hi, St _ _ gp, _, rfl, ?_⟩
    rw [ful1]
    refine iteF ⟨_, rfl, _, rfl, Lm, p, mine, labelsF bs, rfl, rows_same S2 hm, St _ _ gp, _, rfl, ?_⟩
    rw [ful2]
    refine iteF ?_
    exact k (.ref p) _ S2 (.inr ⟨p, labelsF bs, rfl, fp, St _ _ gp, ok, ful1⟩) (by rw [hit]; rfl)
/-- both results are labels, and may be changed -/
theorem part_labels {v v' : V} {H0 : Hp} (i : Rows8 its) (S0 : Same H0 H) (hv : ToldV its H0 H v) (hv' : ToldV its H0 H v') (ne : ∀ p q, v = .ref p → v' = .ref q → p ≠ q)
    (k : ∀ (x19 : Option V) (H' : Hp), Same H0 H' → C D [s0, s1, s2, s3, s4, s5, s6, s7, s8, s9, s10, s11, some (.ref Lm), some (.ref Li), some (.str (selT mine)), some (.str (selT its)), some (.ref pp), some v, some v', x19, s20, s21] H') :
    tSeq (tFor (iTup K (tTup (tCons (tVar 17) (tCons (tVar 18) tNil)))) (gName 19) (tIfS (tTest (tOp (fun x y H Q => y = V.non ∧ Q (V.bl !decide (x = V.non)) H) (tVar 19) (tC V.non))) (tSeq (tIfS (tOr (tNot (tB (tCall (sp_is_labels K) [] E0 (tCons (tVar 19) tNil)))) (tTest (tOp rNotB (tCall (sp_matches K) [] E0 (tCons (tVar 15) (tCons (tVar 19) tNil))) (tC (V.bl true))))) (tRet (tC (V.bl false))) tNext) (tDrop (tBM0 K "dict" rDClear (tVar 19)))) tNext)) C D
      [s0, s1, s2, s3, s4, s5, s6, s7, s8, s9, s10, s11, some (.ref Lm), some (.ref Li), some (.str (selT mine)), some (.str (selT its)), some (.ref pp), some v, some v', s19, s20, s21] H := by
  refine ⟨_, rfl, _, rfl, smallN (by show 2 ≤ 1000; decide), fun tp qtp => ⟨tp, rfl, ⟨_, SqT.of upd_same⟩, ?_⟩⟩
  have St := Same.new (u := .tup [v, v']) qtp
  have gt : (upd H tp (.tup [v, v'])) tp = _ := upd_same
  have tv : ∀ {x : V}, ToldV its H0 H x → ToldV its H0 (upd H tp (.tup [v, v'])) x := fun h => h.elim .inl fun ⟨p, l, a, b, c, d⟩ => .inr ⟨p, l, a, b, St _ _ c, d⟩
  generalize upd H tp (.tup [v, v']) = H1 at St gt tv
  refine for_it (walk_tup (xs := [v, v'])) (fun j σ H' => (∃ x19 : Option V, σ = [s0, s1, s2, s3, s4, s5, s6, s7, s8, s9, s10, s11, some (.ref Lm), some (.ref Li), some (.str (selT mine)), some (.str (selT its)), some (.ref pp), some v, some v', x19, s20, s21]) ∧ Same H0 H' ∧ H' tp = some (.tup [v, v']) ∧ ∀ (c : Nat) (x : V), j ≤ c → [v, v'][c]? = some x → ToldV its H0 H' x)
    ⟨⟨_, rfl⟩, S0.trans St, gt, fun c x _ hx => ?_⟩ (fun j σ H' _ h => SqT.of h.2.2.1) ?_ ?_
  · match c, hx with
    | 0, hx => cases hx; exact tv hv
    | 1, hx => cases hx; exact tv hv'
  · rintro j x σ H2 _ hj ⟨⟨x19, rfl⟩, S2, g2, told⟩ ⟨rfl, hx⟩
    refine ⟨_, rfl, rfl, _, rfl, ?_⟩
    rcases told j x (Nat.le_refl _) hx with rfl | ⟨p, l, rfl, fp, gp, ok, ful⟩
    · exact iteF ⟨⟨_, rfl⟩, S2, g2, fun c y hc hy => told c y (Nat.le_of_succ_le hc) hy⟩
    · refine iteT ⟨_, rfl, p, l, rfl, gp, ok, fun H3 S3 => ⟨_, rfl, iteF ?_⟩⟩
      refine ⟨_, rfl, _, rfl, p, its, l, rfl, i, S3 _ _ gp, ok, fun H4 S4 => ?_⟩
      rw [ful]
      have g4 := S4 _ _ (S3 _ _ gp)
      refine ⟨_, _, rfl, rfl, _, rfl, iteF ⟨_, rfl, tyv_dict g4, p, _, rfl, rfl, g4, ⟨_, rfl⟩, fun b o hb => ?_, ?_, fun c y hc hy => ?_⟩⟩
      · rw [upd_ne (ne_of_none hb fp)]; exact S4 _ _ (S3 _ _ (S2 _ _ hb))
      · have n1 : tp ≠ p := fun z => by rw [z, gp] at g2; cases g2
        rw [upd_ne n1]; exact S4 _ _ (S3 _ _ g2)
      · have c1 : c = 1 := by have := lt_at hy; simp only [List.length_cons, List.length_nil] at this; omega
        subst c1
        have j0 : j = 0 := by omega
        subst j0
        cases hx
        cases hy
        rcases told 1 v' (Nat.zero_le _) rfl with e | ⟨q, l', rfl, fq, gq, ok', ful'⟩
        · exact .inl e
        · exact .inr ⟨q, l', rfl, fq, by rw [upd_ne (Ne.symm (ne p q rfl rfl))]; exact S4 _ _ (S3 _ _ gq), ok', ful'⟩
  · rintro σ H2 ⟨⟨x19, rfl⟩, S2, _, _⟩
    exact k x19 H2 S2
/-- asked again, both tell the same -/
theorem part_again {v v' : V} (nd : ns.Nodup) (ln : ns.length ≤ 3) (m : Side xs ns mine) (i : Side xs ns its) (hv : decide (v = .non) = !hitB (allLab (xs ++ nowT) ns) true mine its) (hv' : decide (v' = .non) = !hitB (allLab (xs ++ nowT) ns) false mine its)
    (k : ∀ (H' : Hp), Same H H' → D.nx [s0, s1, s2, s3, s4, s5, s6, s7, s8, s9, s10, s11, some (.ref Lm), some (.ref Li), some (.str (selT mine)), some (.str (selT its)), some (.ref pp), some v, some v', s19, s20, s21] H') :
    tSeq (tIfS (tTest (tOp rNe (tOp (fun x y H Q => y = V.non ∧ Q (V.bl (decide (x = V.non))) H) (tCall (sp_meets K) [] E0 (tCons (tVar 14) (tCons (tVar 15) tNil))) (tC V.non)) (tOp (fun x y H Q => y = V.non ∧ Q (V.bl (decide (x = V.non))) H) (tVar 17) (tC V.non)))) (tRet (tC (V.bl false))) tNext)
      (tIfS (tTest (tOp rNe (tOp (fun x y H Q => y = V.non ∧ Q (V.bl (decide (x = V.non))) H) (tCall (sp_covers K) [] E0 (tCons (tVar 14) (tCons (tVar 15) tNil))) (tC V.non)) (tOp (fun x y H Q => y = V.non ∧ Q (V.bl (decide (x = V.non))) H) (tVar 18) (tC V.non)))) (tRet (tC (V.bl false))) tNext) D
      [s0, s1, s2, s3, s4, s5, s6, s7, s8, s9, s10, s11, some (.ref Lm), some (.ref Li), some (.str (selT mine)), some (.str (selT its)), some (.ref pp), some v, some v', s19, s20, s21] H := by
  have two : ∀ H1, Same H H1 → (tIfS (tTest (tOp rNe (tOp (fun x y H Q => y = V.non ∧ Q (V.bl (decide (x = V.non))) H) (tCall (sp_covers K) [] E0 (tCons (tVar 14) (tCons (tVar 15) tNil))) (tC V.non)) (tOp (fun x y H Q => y = V.non ∧ Q (V.bl (decide (x = V.non))) H) (tVar 18) (tC V.non)))) (tRet (tC (V.bl false))) tNext) D
      [s0, s1, s2, s3, s4, s5, s6, s7, s8, s9, s10, s11, some (.ref Lm), some (.ref Li), some (.str (selT mine)), some (.str (selT its)), some (.ref pp), some v, some v', s19, s20, s21] H1 := fun H1 S1 => by
    refine ⟨_, rfl, _, rfl, mine, its, rfl, m.few, i.few, fun nob H2 S2 => ?_, fun r bs p H2 hr isb need S2 fp gp => ?_⟩
    · have hit := cover_none nd ln m i nob
      refine ⟨rfl, _, rfl, rfl, rfl, _, rfl, ?_⟩
      rw [hv', hit]
      exact iteF (k H2 (S1.trans S2))
    · have hit := (cover_some nd ln m i hr isb).1
      refine ⟨rfl, _, rfl, rfl, rfl, _, rfl, ?_⟩
      rw [hv', hit]
      exact iteF (k H2 (S1.trans S2))
  refine ⟨_, rfl, _, rfl, mine, its, rfl, m.few, i.few, fun nob H2 S2 => ?_, fun bs p H2 isb need S2 fp gp => ?_⟩
  · have hit := meet_none nd ln m i nob
    refine ⟨rfl, _, rfl, rfl, rfl, _, rfl, ?_⟩
    rw [hv, hit]
    exact iteF (two H2 S2)
  · have hit := (meet_some nd ln m i isb).1
    refine ⟨rfl, _, rfl, rfl, rfl, _, rfl, ?_⟩
    rw [hv, hit]
    exact iteF (two H2 S2)
end
theorem rows_keep {a : Addr} {n : Nat} {H H' : Hp} {L : Addr} {rows : List Row} (w : WellAt H a n) (x : Keep a H H') (nL : L ≠ a) (h : RowsAt H L rows) : RowsAt H' L rows := by
  obtain ⟨ps, h1, h2⟩ := h
  exact ⟨ps, x _ _ nL h1, Paired.mono (fun p r q => x _ _ (well_ne w q fun _ z => by cases z) q) h2⟩
def app1 : List Str := ["app"]
theorem names_app : Names app1 := ⟨by decide, by decide, by decide +kernel, by simp [app1, names4]⟩
/-- now and then one name alone, which is there without some values -/
theorem part_crowd {K : PySem.W.Frag} {C : TS} {D : Ends} {H : Hp} {a aw p8 L1 L2 : Addr} {z : Int} {n : Nat} {nms : List Str} {rows1 rows2 : List Row} {v6 v7 v8 v9 v10 v11 v12 v13 v14 v15 v16 v17 v18 v19 v20 v21 : Option V} (w : WellAt H aw n) (hn : n ≤ 100) (g8 : H p8 = some (.lst (nms.map V.str))) (n8 : p8 ≠ aw) (hN : Names nms)
    (h1 : Rows8 rows1 ∧ ∀ r ∈ rows1, r.nm ∈ nms) (h2 : Rows8 rows2 ∧ ∀ r ∈ rows2, r.nm ∈ nms) (hR1 : RowsAt H L1 rows1) (hR2 : RowsAt H L2 rows2) (nL1 : L1 ≠ aw) (nL2 : L2 ≠ aw)
    (k : ∀ (pn M1 M2 : Addr) (ns : List Str) (r1 r2 : List Row) (H' : Hp), Names ns → (Rows8 r1 ∧ ∀ r ∈ r1, r.nm ∈ ns) → (Rows8 r2 ∧ ∀ r ∈ r2, r.nm ∈ ns) → H' pn = some (.lst (ns.map V.str)) → RowsAt H' M1 r1 → RowsAt H' M2 r2 → Keep aw H H' →
      C D [some (.ref a), some (.int z), some (.ref aw), some (.ref pn), some (.ref M1), some (.ref M2), v6, v7, v8, v9, v10, v11, v12, v13, v14, v15, v16, v17, v18, v19, v20, v21] H') :
    tSeq (tIfS (tTest (tOp rEq (tCall (sp__law_draw K) [] E0 (tCons (tVar 2) (tCons (tC (V.int 3)) tNil))) (tC (V.int 0)))) (tPar3 3 4 5 (tCons (tLst (tCons (tC (V.str "app")) tNil)) (tCons (tCall (sp__law_crowded K) [] E0 (tCons (tVar 2) tNil)) (tCons (tCall (sp__law_rows K) [] E0 (tCons (tVar 2) (tCons (tLst (tCons (tC (V.str "app")) tNil)) (tCons (tC (V.int 5)) tNil)))) tNil)))) tNext) C D
      [some (.ref a), some (.int z), some (.ref aw), some (.ref p8), some (.ref L1), some (.ref L2), v6, v7, v8, v9, v10, v11, v12, v13, v14, v15, v16, v17, v18, v19, v20, v21] H := by
  refine ⟨_, rfl, aw, n, 3, rfl, w, by omega, by decide, by decide, fun r u n1 r0 r1 hn1 hu1 => ?_⟩
  have K1 : Keep aw H (upd H aw u) := Keep.at_
  have w1 := well_upd (H := H) (a := aw) hu1
  generalize upd H aw u = H1 at K1 w1 ⊢
  refine ⟨rfl, _, rfl, ?_⟩
  refine ite2 (fun _ => ?_) (fun _ => k p8 L1 L2 nms rows1 rows2 H1 hN h1 h2 (K1 _ _ n8 g8) (rows_keep w K1 nL1 hR1) (rows_keep w K1 nL2 hR2) K1)
  refine ⟨smallN (by show 1 ≤ 1000; decide), fun pn qn => ?_⟩
  have K2 := K1.trans (Keep.new (u := .lst (app1.map V.str)) qn)
  have w2 := well_new (u := .lst (app1.map V.str)) w1 qn
  have g2 : (upd H1 pn (.lst (app1.map V.str))) pn = _ := upd_same
  have nn : pn ≠ aw := well_ne3 w1 qn
  have e2 : upd H1 pn (.lst [V.str "app"]) = upd H1 pn (.lst (app1.map V.str)) := rfl
  rw [e2]
  clear e2
  generalize upd H1 pn (.lst (app1.map V.str)) = H2 at K2 w2 g2 ⊢
  refine ⟨_, rfl, aw, n1, rfl, w2, by omega, fun M1 r1' H3 n3 h8 happ hR3 nM1 K3 w3 hn3 => ?_⟩
  refine ⟨_, rfl, smallN (by show 1 ≤ 1000; decide), fun pm qm => ?_⟩
  have g3 := K3 _ _ nn g2
  have S4 := Same.new (u := .lst (app1.map V.str)) qm
  have w4 := well_new (u := .lst (app1.map V.str)) w3 qm
  have g4 : (upd H3 pm (.lst (app1.map V.str))) pm = _ := upd_same
  have nm_ : pm ≠ aw := well_ne3 w3 qm
  have e4 : upd H3 pm (.lst [V.str "app"]) = upd H3 pm (.lst (app1.map V.str)) := rfl
  rw [e4]
  clear e4
  generalize upd H3 pm (.lst (app1.map V.str)) = H4 at S4 w4 g4 ⊢
  refine ⟨aw, pm, n3, app1, rfl, w4, by omega, g4, nm_, names_app, fun M2 r2' H5 n5 h5 hR5 nM2 K5 w5 hn5 => ⟨_, _, _, rfl, ?_⟩⟩
  exact k pn M1 M2 app1 r1' r2' H5 names_app ⟨h8, fun r hr => by rw [happ r hr]; exact List.mem_singleton.mpr rfl⟩ h5 (K5 _ _ nn (S4 _ _ g3)) (rows_keep w4 K5 nM1 (rows_same S4 hR3)) hR5 (K2.trans (K3.trans ((Keep.of S4).trans K5)))

/-! ### the law -/
theorem units65 {k : Nat} {A : Around} (r : Room k A) : A.units + 65 < cLine := by have := r.un; omega
theorem names_cut {r : Int} (h0 : 0 ≤ r) (h1 : r < 3) : ∃ ns, cutV (names4.map V.str) none (some (1 + r)) = ns.map V.str ∧ Names ns := by
  have : r = 0 ∨ r = 1 ∨ r = 2 := by omega
  rcases this with rfl | rfl | rfl
  · exact ⟨names4.take 1, rfl, by decide, by decide, by decide +kernel, by simp [names4]⟩
  · exact ⟨names4.take 2, rfl, by decide, by decide, by decide +kernel, by simp [names4]⟩
  · exact ⟨names4.take 3, rfl, by decide, by decide, by decide +kernel, by simp [names4]⟩
def sp_law (K : PySem.W.Frag) : Sp := fun vs H Q _ => ∃ (a : Addr) (ns : List Int), vs = [.ref a] ∧ SqL K H a (ns.map V.int) ∧ ns.length ≤ 63 ∧ ∀ H', Q (.bl true) H'
theorem cut_int {ns : List Int} {lo hi : Option Int} {x : V} (h : x ∈ cutV (ns.map V.int) lo hi) : ∃ i, x = .int i := by
  obtain ⟨i, _, rfl⟩ := List.mem_map.mp (cut_mem h)
  exact ⟨i, rfl⟩
theorem well_same {a : Addr} {n : Nat} {H H' : Hp} (w : WellAt H a n) (x : Same H H') : WellAt H' a n := by
  obtain ⟨u, hu, o⟩ := w; exact ⟨u, x _ _ hu, o⟩
/-- the values that rows ask for, or exclude -/
def askV (v : Verb) : Bool := match v with | .is => true | .not => true | _ => false
def wv (rs : List Row) : List Str := (rs.filter fun r => askV r.vb).map (·.vl)
theorem wv_snoc (rs : List Row) (r : Row) : wv (rs ++ [r]) = wv rs ++ (if askV r.vb = true then [r.vl] else []) := by
  unfold wv
  rw [List.filter_append, List.map_append]
  congr 1
  cases e : askV r.vb <;> simp [e]
theorem wv_len (rs : List Row) : (wv rs).length ≤ rs.length := by unfold wv; rw [List.length_map]; exact List.length_filter_le _ _
theorem in_ask (v : Verb) : inV (.str (vT v)) [.str "is", .str "not"] = askV v := by cases v <;> decide +kernel
theorem now_out : ∀ z ∈ vals8, z ≠ "nowhere" := by decide +kernel
theorem row_vl {r : Row} (h : r ∈ allRows) : r.vl ∈ vals8 := by
  obtain ⟨n, _, h⟩ := List.mem_flatMap.mp h
  rcases List.mem_append.mp h with h | h
  · obtain ⟨v, hv, h⟩ := List.mem_flatMap.mp h
    simp only [List.mem_cons, List.not_mem_nil, or_false] at h
    rcases h with rfl | rfl <;> exact hv
  · simp only [List.mem_cons, List.not_mem_nil, or_false] at h
    rcases h with rfl | rfl <;> simp [vals8]
theorem side_of {ns : List Str} {all rs : List Row} (h8 : Rows8 rs) (hn : ∀ r ∈ rs, r.nm ∈ ns) (sub : ∀ r ∈ rs, r ∈ all) : Side (sortU (wv all)) ns rs :=
  ⟨h8, hn, fun r hr hv => ⟨sortU_mem.mpr (List.mem_map.mpr ⟨r, List.mem_filter.mpr ⟨sub r hr, by rcases hv with e | e <;> rw [e] <;> rfl⟩, rfl⟩), now_out _ (row_vl (h8.2 r hr))⟩⟩
theorem paired_map {α β γ : Type} {F : α → γ → Prop} {f : β → γ} : ∀ {xs : List α} {ys : List β}, Paired F xs (ys.map f) → Paired (fun a b => F a (f b)) xs ys
  | _, [], h => by cases h; exact .nil
  | _, _ :: _, h => by cases h with | cons r t => exact .cons r (paired_map t)
theorem paired_unmap {α β γ : Type} {F : α → γ → Prop} {f : β → γ} : ∀ {xs : List α} {ys : List β}, Paired (fun a b => F a (f b)) xs ys → Paired F xs (ys.map f)
  | _, _, .nil => .nil
  | _, _, .cons r t => .cons r (paired_unmap t)
theorem zip_two {α β γ : Type} (f : α → β) (g : α → γ) : ∀ l : List α, (l.map f).zip (l.map g) = l.map fun x => (f x, g x)
  | [] => rfl
  | x :: l => by rw [List.map_cons, List.map_cons, List.zip_cons_cons, zip_two f g l]; rfl
def flagL (tried : List Lb) (rs : List Row) : List V := tried.map fun t => V.bl (fulAll rs t)
def turns5 : List (Nat × Nat) := [(0, 1), (1, 0), (0, 0), (2, 0), (0, 2)]
/-- sorted(set([row[2] for row in one + other if row[1] in ("is", "not")])) -/
theorem set_values {P : Program} {w : World} {K : PySem.W.Frag} {H : Hp} {M1 M2 : Addr} {r1 r2 : List Row} {Q : VK} {v0 v1 v2 v3 v6 v7 v8 v9 v10 v11 v12 v13 v14 v15 v16 v17 v18 v19 v20 v21 : Option V} (R1 : RowsAt H M1 r1) (R2 : RowsAt H M2 r2) (s1 : Rows8 r1) (s2 : Rows8 r2)
    (k : ∀ p H', Same H H' → H' p = some (.lst ((sortU (wv (r1 ++ r2))).map V.str)) → Q (.ref p) H') :
    tCB (rSortTx P w) (tCons (tCB (rSetTx K P w) (tCons (tLc (iList K (tOp rCat (tVar 4) (tVar 5))) (gName 20) (tTest (tOp (rIn K false) (tOp (rIxT K) (tVar 20) (tC (V.int 1))) (tTup (tCons (tC (V.str "is")) (tCons (tC (V.str "not")) tNil))))) (tOp (rIxT K) (tVar 20) (tC (V.int 2))) [20]) tNil)) tNil)
      [v0, v1, v2, v3, some (.ref M1), some (.ref M2), v6, v7, v8, v9, v10, v11, v12, v13, v14, v15, v16, v17, v18, v19, v20, v21] H Q := by
  obtain ⟨ps1, gM1, hp1⟩ := id R1
  obtain ⟨ps2, gM2, hp2⟩ := id R2
  have lp1 := paired_len hp1
  have lp2 := paired_len hp2
  have f1 := s1.1
  have f2 := s2.1
  refine ⟨_, rfl, _, rfl, M1, M2, _, _, rfl, rfl, gM1, gM2, smallN (by rw [List.length_map, List.length_map, lp1, lp2]; omega), fun Lc qc => ?_⟩
  have Sc := Same.new (u := .lst (ps1.map V.ref ++ ps2.map V.ref)) qc
  obtain ⟨pc, gc, hpc⟩ := rows_cat (L1 := M1) (L2 := M2) hp1 hp2 qc
  generalize upd H Lc (.lst (ps1.map V.ref ++ ps2.map V.ref)) = Hc at Sc gc hpc ⊢
  have lpc := paired_len hpc
  have la : (r1 ++ r2).length ≤ 16 := by rw [List.length_append]; omega
  refine ⟨Lc, rfl, ⟨_, SqL.of gc⟩, fun D hD => ?_⟩
  refine lc_list (K := K) (a := Lc) (xs := pc.map V.ref) (fun j H' => Same Hc H' ∧ H' D = some (.lst ((wv ((r1 ++ r2).take j)).map V.str))) ⟨Same.new hD, upd_same⟩ (fun j H' _ p => SqL.of (p.1 _ _ gc)) ?_ ?_
  · rintro j x Hd hx ⟨Sd, gD⟩
    rw [List.getElem?_map] at hx
    obtain ⟨p, ep, rfl⟩ := Option.map_eq_some_iff.mp hx
    obtain ⟨r, er, hr1⟩ : ∃ r, (r1 ++ r2)[j]? = some r ∧ RowAt Hc p r := paired_at hpc ep
    have grow := Sd _ _ hr1
    refine ⟨rfl, _, rfl, p, _, 1, .str (vT r.vb), rfl, rfl, SqT.of grow, rfl, smallN (by show 2 ≤ 1000; decide), fun tq qq => ⟨tq, _, rfl, .inr (SqT.of upd_same), rfl, rfl, _, rfl, ?_⟩⟩
    have Sq := Same.new (u := .tup [.str "is", .str "not"]) qq
    rw [get_take er, wv_snoc]
    refine iteE (in_ask r.vb) (fun e => ?_) (fun e => ?_)
    · refine ⟨_, rfl, p, _, 2, .str r.vl, rfl, rfl, SqT.of (Sq _ _ grow), rfl, _, Sq _ _ gD, small1000 ?_, fun b o hb => ?_, ?_⟩
      · rw [List.length_map]
        have := wv_len ((r1 ++ r2).take j)
        rw [List.length_take] at this; omega
      · rw [upd_ne (ne_of_none hb hD)]; exact Sq _ _ (Sd b o hb)
      · rw [upd_same, e, List.map_append]; rfl
    · rw [e]
      exact ⟨Sd.trans Sq, by rw [Sq _ _ gD, if_neg (by decide), List.append_nil]⟩
  rintro Hd ⟨Sd, gD⟩
  rw [List.length_map, lpc, List.take_length] at gD
  have lw := wv_len (r1 ++ r2)
  have lput := putAll_len (wv (r1 ++ r2)) []
  rw [List.length_nil] at lput
  refine ⟨D, _, rfl, SqL.of gD, (by unfold scanBound; omega), fun pS qS => ⟨pS, _, rfl, upd_same, by omega, fun pq qq => ?_⟩⟩
  exact k pq _ (Sc.trans (Sd.trans ((Same.new qS).trans (Same.new qq)))) upd_same
/-- [[fulfils(rows, labels) for labels in tried] for rows in (one, other, [])] -/
theorem flags_made {K : PySem.W.Frag} {C : TS} {E : Ends} {H : Hp} {M1 M2 pt : Addr} {r1 r2 : List Row} {tried : List Lb} {v0 v1 v2 v3 v6 v8 v9 v10 v11 v12 v13 v14 v15 v16 v17 v18 v19 v20 v21 : Option V} (R1 : RowsAt H M1 r1) (R2 : RowsAt H M2 r2) (LT : LabsAt H pt tried) (big : tried.length ≤ 9261)
    (k : ∀ DF fs H', Same H H' → H' DF = some (.lst (fs.map V.ref)) → Paired (fun f rs => H' f = some (.lst (flagL tried rs))) fs [r1, r2, []] → C E [v0, v1, v2, v3, some (.ref M1), some (.ref M2), v6, some (.ref pt), some (.ref DF), v9, v10, v11, v12, v13, v14, v15, v16, v17, v18, v19, v20, v21] H') :
    tSeq (tAsg (tLc (iTup K (tTup (tCons (tVar 4) (tCons (tVar 5) (tCons (tLst tNil) tNil))))) (gName 21) tYes (tLc (iList K (tVar 7)) (gName 19) tYes (tCall (sp__law_fulfils K) [] E0 (tCons (tVar 21) (tCons (tVar 19) tNil))) [19]) [21]) (gName 8)) C E
      [v0, v1, v2, v3, some (.ref M1), some (.ref M2), v6, some (.ref pt), v8, v9, v10, v11, v12, v13, v14, v15, v16, v17, v18, v19, v20, v21] H := by
  obtain ⟨ds, gds, hds⟩ := id LT
  have lds := paired_len hds
  refine ⟨_, rfl, _, rfl, smallN (by show 0 ≤ 1000; decide), fun pe qe => ⟨smallN (by show 3 ≤ 1000; decide), fun p3t q3t => ⟨p3t, rfl, ⟨_, SqT.of upd_same⟩, fun DF hDF => ?_⟩⟩⟩
  have S3t := (Same.new (u := .lst []) qe).trans (Same.new (u := .tup [.ref M1, .ref M2, .ref pe]) q3t)
  have g3t : (upd (upd H pe (.lst [])) p3t (.tup [.ref M1, .ref M2, .ref pe])) p3t = some (.tup ([M1, M2, pe].map V.ref)) := upd_same
  have R3e : RowsAt (upd (upd H pe (.lst [])) p3t (.tup [.ref M1, .ref M2, .ref pe])) pe [] := ⟨[], Same.new q3t _ _ upd_same, .nil⟩
  generalize upd (upd H pe (.lst [])) p3t (.tup [.ref M1, .ref M2, .ref pe]) = Hg at S3t g3t R3e hDF ⊢
  have rows3 : Paired (RowsAt Hg) [M1, M2, pe] [r1, r2, []] := .cons (rows_same S3t R1) (.cons (rows_same S3t R2) (.cons R3e .nil))
  refine lc_it (walk_tup (xs := [M1, M2, pe].map V.ref)) (fun j H' => Same Hg H' ∧ ∃ fs : List Addr, H' DF = some (.lst (fs.map V.ref)) ∧ Paired (fun f rs => f ≠ DF ∧ H' f = some (.lst (flagL tried rs))) fs ([r1, r2, []].take j)) ⟨Same.new hDF, [], upd_same, .nil⟩ (fun j H' _ p => SqT.of (p.1 _ _ g3t)) ?_ ?_
  · rintro j x _ H1 hj ⟨S1, fs, gF, hfs⟩ ⟨rfl, hx⟩
    rw [List.getElem?_map] at hx
    obtain ⟨M, eM, rfl⟩ := Option.map_eq_some_iff.mp hx
    obtain ⟨rs, ers, hRs⟩ := paired_at rows3 eM
    have lf := paired_len hfs
    rw [List.length_take] at lf
    refine ⟨rfl, yes_ (iteT ?_)⟩
    have gds1 := S1 _ _ (S3t _ _ gds)
    refine ⟨_, rfl, pt, rfl, ⟨_, SqL.of gds1⟩, fun DI hDI => ?_⟩
    refine lc_list (K := K) (a := pt) (xs := ds.map V.ref) (fun m H' => Same H1 H' ∧ H' DI = some (.lst (flagL (tried.take m) rs))) ⟨Same.new hDI, upd_same⟩ (fun m H' _ p => SqL.of (p.1 _ _ gds1)) ?_ ?_
    · rintro m y H2 hy ⟨S2, gI⟩
      rw [List.getElem?_map] at hy
      obtain ⟨d, ed, rfl⟩ := Option.map_eq_some_iff.mp hy
      obtain ⟨t, et, gd⟩ := paired_at hds ed
      refine ⟨rfl, yes_ (iteT ?_)⟩
      refine ⟨_, rfl, _, rfl, M, d, rs, t, rfl, rows_same (S1.trans S2) hRs, S2 _ _ (S1 _ _ (S3t _ _ gd)), _, gI, small6 ?_, fun b o hb => ?_, ?_⟩
      · unfold flagL; rw [List.length_map, List.length_take]; omega
      · rw [upd_ne (ne_of_none hb hDI)]; exact S2 b o hb
      · rw [upd_same, get_take et]; unfold flagL; rw [List.map_append]; rfl
    rintro H2 ⟨S2, gI⟩
    rw [List.length_map, lds, List.take_length] at gI
    refine ⟨_, S2 _ _ gF, small1000 (by rw [List.length_map, lf]; exact Nat.le_trans (Nat.min_le_right _ _) (by show 3 ≤ 1000; decide)), fun b o hb => ?_, fs ++ [DI], ?_, ?_⟩
    · rw [upd_ne (ne_of_none hb hDF)]; exact S2 _ _ (S1 b o hb)
    · rw [upd_same, List.map_append]; rfl
    · rw [get_take ers]
      have nF : DI ≠ DF := fun z => by rw [z, gF] at hDI; cases hDI
      exact paired_snoc (F := fun (f : Addr) (q : List Row) => f ≠ DF ∧ upd H2 DF (.lst (fs.map V.ref ++ [.ref DI])) f = some (.lst (flagL tried q))) ⟨nF, by rw [upd_ne nF]; exact gI⟩ (Paired.mono (fun f q h => ⟨h.1, by rw [upd_ne h.1]; exact S2 _ _ h.2⟩) hfs)
  · rintro H1 ⟨S1, fs, gF, hfs⟩
    exact k DF fs H1 (S3t.trans S1) gF (Paired.mono (fun _ _ h => h.2) hfs)
theorem ok_law {P : Program} {w : World} {K : PySem.W.Frag} {mg : Str → Option Value} {base : Heap} {fd : FuncData} (T : Txt K mg w) (F : FnP K "law" s_law [] fd) : FnOk P w K mg base CX0 6 (He.ga K "law") fd ps_law (sp_law K) := by
  obtain ⟨fd__law_source, F__law_source⟩ := T.d__law_source
  have G__law_source := ok__law_source (P := P) (w := w) (base := base) T F__law_source
  have k__law_source := F__law_source.kp
  have b__law_source := bi__law_source F__law_source
  obtain ⟨fd__law_all_labels, F__law_all_labels⟩ := T.d__law_all_labels
  have G__law_all_labels := ok__law_all_labels (P := P) (w := w) (base := base) T F__law_all_labels
  have k__law_all_labels := F__law_all_labels.kp
  have b__law_all_labels := bi__law_all_labels F__law_all_labels
  obtain ⟨fd__law_cell_at, F__law_cell_at⟩ := T.d__law_cell_at
  have G__law_cell_at := ok__law_cell_at (P := P) (w := w) (base := base) T F__law_cell_at
  have k__law_cell_at := F__law_cell_at.kp
  have b__law_cell_at := bi__law_cell_at F__law_cell_at
  obtain ⟨fd__law_rows, F__law_rows⟩ := T.d__law_rows
  have G__law_rows := ok__law_rows (P := P) (w := w) (base := base) T F__law_rows
  have k__law_rows := F__law_rows.kp
  have b__law_rows := bi__law_rows F__law_rows
  obtain ⟨fd__law_draw, F__law_draw⟩ := T.d__law_draw
  have G__law_draw := ok__law_draw (P := P) (w := w) (base := base) T F__law_draw
  have k__law_draw := F__law_draw.kp
  have b__law_draw := bi__law_draw F__law_draw
  obtain ⟨fd_meets, F_meets⟩ := T.d_meets
  have G_meets := ok_meets (P := P) (w := w) (base := base) T F_meets
  have k_meets := F_meets.kp
  have b_meets := bi_meets F_meets
  obtain ⟨fd_covers, F_covers⟩ := T.d_covers
  have G_covers := ok_covers (P := P) (w := w) (base := base) T F_covers
  have k_covers := F_covers.kp
  have b_covers := bi_covers F_covers
  obtain ⟨fd__law_crowded, F__law_crowded⟩ := T.d__law_crowded
  have G__law_crowded := ok__law_crowded (P := P) (w := w) (base := base) T F__law_crowded
  have k__law_crowded := F__law_crowded.kp
  have b__law_crowded := bi__law_crowded F__law_crowded
  obtain ⟨fd__law_fulfils, F__law_fulfils⟩ := T.d__law_fulfils
  have G__law_fulfils := ok__law_fulfils (P := P) (w := w) (base := base) T F__law_fulfils
  have k__law_fulfils := F__law_fulfils.kp
  have b__law_fulfils := bi__law_fulfils F__law_fulfils
  obtain ⟨fd__law_text, F__law_text⟩ := T.d__law_text
  have G__law_text := ok__law_text (P := P) (w := w) (base := base) T F__law_text
  have k__law_text := F__law_text.kp
  have b__law_text := bi__law_text F__law_text
  obtain ⟨fd_is_labels, F_is_labels⟩ := T.d_is_labels
  have G_is_labels := ok_is_labels (P := P) (w := w) (base := base) T F_is_labels
  have k_is_labels := F_is_labels.kp
  have b_is_labels := bi_is_labels F_is_labels
  obtain ⟨fd_matches, F_matches⟩ := T.d_matches
  have G_matches := ok_matches (P := P) (w := w) (base := base) T F_matches
  have k_matches := F_matches.kp
  have b_matches := bi_matches F_matches
  refine F.ok sc_law (fun vs H Q E h => ?len) (fun cdv A outer s H vs Q E hr h => ?body)
  case len => obtain ⟨a, ns, rfl, hS, hlen, k⟩ := h; rfl
  case body =>
  obtain ⟨a, ns, rfl, hS, hlen, k⟩ := h
  have hu := hu_of hr
  refine ⟨_, PSs.nox (pss_cons (ps_for PassesOwn.never rfl (pi_list (pe_op op_cat (pe_lst (pa_cons (pe_call G__law_cell_at (hr.mono (by first | decide | omega)) rfl T.g__law_cell_at k__law_cell_at b__law_cell_at .nil pass0 (pa_cons (pv 0) (pa_cons pe_int pa_nil))) pa_nil)) (pe_slice sl_list (pv 0) (po_some pe_int) (po_some pe_int)))) (pg_name (i := 1) sc_law.nd rfl (Or.inl rfl))
      (pss_cons (ps_set (i := 2) sc_law.nd rfl (Or.inl rfl) (pe_call G__law_source (hr.mono (by first | decide | omega)) rfl T.g__law_source k__law_source b__law_source .nil pass0 (pa_cons (pv 1) pa_nil)))
        (pss_cons (ps_set (i := 3) sc_law.nd rfl (Or.inl rfl) (pe_slice sl_list (pe_lst (pa_cons pe_str (pa_cons pe_str (pa_cons pe_str pa_nil)))) po_none (po_some (pe_op op_add pe_int (pe_call G__law_draw (hr.mono (by first | decide | omega)) rfl T.g__law_draw k__law_draw b__law_draw .nil pass0 (pa_cons (pv 2) (pa_cons pe_int pa_nil)))))))
        (pss_cons (ps_par (i := 4) (j := 5) (by rfl) sc_law.nd rfl rfl (by decide) rfl rfl (pa_cons (pe_call G__law_rows (hr.mono (by first | decide | omega)) rfl T.g__law_rows k__law_rows b__law_rows .nil pass0 (pa_cons (pv 2) (pa_cons (pv 3) (pa_cons pe_int pa_nil)))) (pa_cons (pe_call G__law_rows (hr.mono (by first | decide | omega)) rfl T.g__law_rows k__law_rows b__law_rows .nil pass0 (pa_cons (pv 2) (pa_cons (pv 3) (pa_cons pe_int pa_nil)))) pa_nil)) (by rfl))
        (pss_cons (ps_if (pt_cmpR op_eq (pe_call G__law_draw (hr.mono (by first | decide | omega)) rfl T.g__law_draw k__law_draw b__law_draw .nil pass0 (pa_cons (pv 2) (pa_cons pe_int pa_nil))) pe_int (nomark _)) (pss_one (ps_par3 (i := 3) (j := 4) (l := 5) (by rfl) sc_law.nd rfl rfl rfl (by decide) (by decide) (by decide) rfl rfl rfl (pa_cons (pe_lst (pa_cons pe_str pa_nil)) (pa_cons (pe_call G__law_crowded (hr.mono (by first | decide | omega)) rfl T.g__law_crowded k__law_crowded b__law_crowded .nil pass0 (pa_cons (pv 2) pa_nil)) (pa_cons (pe_call G__law_rows (hr.mono (by first | decide | omega)) rfl T.g__law_rows k__law_rows b__law_rows .nil pass0 (pa_cons (pv 2) (pa_cons (pe_lst (pa_cons pe_str pa_nil)) (pa_cons pe_int pa_nil)))) pa_nil))) (by rfl))) pss_nil)
        (pss_cons (ps_set (i := 6) sc_law.nd rfl (Or.inl rfl) (pe_op op_cat (pe_callB (cr_sortTx rfl) (by rfl) T.n_sorted (by decide +kernel) (pa_cons (pe_callTy (cr_setTx rfl) (by rfl) T.n_set (by decide +kernel) (pa_cons (pe_lc (own := [("_law_row", 20)]) rfl sc_law.nd (pi_list (pe_op op_cat (pv 4) (pv 5))) (blkOk_by (own := [("_law_row", 20)]) (N := N_law) (sc := defScope s_law) (by decide +kernel)) (fun _ _ _ _ _ => (pg_name (i := 20) sc_law.nd rfl (Or.inl rfl))) (fun _ _ _ _ _ => (pts_one (pt_cmpR (show OpR _ (compareOp .In) (rIn K false) from op_in_seq) (pe_ix (show IxR _ (rIxT K) from ix_tup) (pv 20) pe_int (fun _ _ => rfl)) (pe_tup (pa_cons pe_str (pa_cons pe_str pa_nil))) (by rfl)))) (fun _ _ _ _ _ => (pe_ix (show IxR _ (rIxT K) from ix_tup) (pv 20) pe_int (fun _ _ => rfl)))) pa_nil)) pa_nil)) (pe_lst (pa_cons pe_str pa_nil))))
        (pss_cons (ps_set (i := 7) sc_law.nd rfl (Or.inr rfl) (pe_call G__law_all_labels (hr.mono (by first | decide | omega)) rfl T.g__law_all_labels k__law_all_labels b__law_all_labels .nil pass0 (pa_cons (pv 3) (pa_cons (pv 6) pa_nil))))
        (pss_cons (ps_setLc (i := 8) (own := [("_law_rows_here", 21)]) (te := tLc (iList K (tVar 7)) (gName 19) tYes (tCall (sp__law_fulfils K) [] E0 (tCons (tVar 21) (tCons (tVar 19) tNil))) [19]) rfl sc_law.nd rfl rfl (sw_true rfl rfl rfl (by decide +kernel)) (pi_tup (pe_tup (pa_cons (pv 4) (pa_cons (pv 5) (pa_cons (pe_lst pa_nil) pa_nil))))) (blkOk_by (own := [("_law_rows_here", 21)]) (N := N_law) (sc := defScope s_law) (by decide +kernel)) (fun _ _ _ _ _ => (pg_name (i := 21) sc_law.nd rfl (Or.inr rfl))) (fun _ _ _ _ _ => pts_nil) (fun _ _ _ _ _ => (pe_lc (own := [("_law_labels", 19)]) rfl sc_law.nd (pi_list (pv 7)) (blkOk_by (own := [("_law_labels", 19)]) (N := N_law) (by kernel_rfl)) (fun _ _ _ _ _ => (pg_name (i := 19) sc_law.nd rfl (Or.inl rfl))) (fun _ _ _ _ _ => pts_nil) (fun _ _ _ _ _ => (pe_call G__law_fulfils (hr.mono (by first | decide | omega)) rfl T.g__law_fulfils k__law_fulfils b__law_fulfils .nil pass0 (pa_cons (pv 21) (pa_cons (pv 19) pa_nil)))))))
        (pss_cons (ps_set (i := 9) sc_law.nd rfl (Or.inl rfl) (pe_lst (pa_cons (pv 4) (pa_cons (pv 5) (pa_cons (pe_lst pa_nil) pa_nil)))))
        (pss_one (ps_for PassesOwn.never rfl (pi_tup (pe_tup (pa_cons (pe_tup (pa_cons pe_int (pa_cons pe_int pa_nil))) (pa_cons (pe_tup (pa_cons pe_int (pa_cons pe_int pa_nil))) (pa_cons (pe_tup (pa_cons pe_int (pa_cons pe_int pa_nil))) (pa_cons (pe_tup (pa_cons pe_int (pa_cons pe_int pa_nil))) (pa_cons (pe_tup (pa_cons pe_int (pa_cons pe_int pa_nil))) pa_nil))))))) (pg_tup rfl (pgs_cons (pg_name (i := 10) sc_law.nd rfl (Or.inl rfl)) (pgs_cons (pg_name (i := 11) sc_law.nd rfl (Or.inl rfl)) pgs_nil)))
          (pss_cons (ps_par (i := 12) (j := 13) (by rfl) sc_law.nd rfl rfl (by decide) rfl rfl (pa_cons (pe_ix ix_list (pv 9) (pv 10) (fun _ _ => rfl)) (pa_cons (pe_ix ix_list (pv 9) (pv 11) (fun _ _ => rfl)) pa_nil)) (by rfl))
            (pss_cons (ps_par (i := 14) (j := 15) (by rfl) sc_law.nd rfl rfl (by decide) rfl rfl (pa_cons (pe_call G__law_text (hr.mono (by first | decide | omega)) rfl T.g__law_text k__law_text b__law_text .nil pass0 (pa_cons (pv 12) pa_nil)) (pa_cons (pe_call G__law_text (hr.mono (by first | decide | omega)) rfl T.g__law_text k__law_text b__law_text .nil pass0 (pa_cons (pv 13) pa_nil)) pa_nil)) (by rfl))
            (pss_cons (ps_set (i := 16) sc_law.nd rfl (Or.inl rfl) (pe_listZip rfl rfl T.n_list (by decide +kernel) rfl T.n_zip (pa_cons (pe_ix ix_list (pv 8) (pv 10) (fun _ _ => rfl)) (pa_cons (pe_ix ix_list (pv 8) (pv 11) (fun _ _ => rfl)) pa_nil))))
            (pss_cons (ps_set (i := 17) sc_law.nd rfl (Or.inl rfl) (pe_call G_meets (hr.mono (by first | decide | omega)) rfl T.g_meets k_meets b_meets .nil pass0 (pa_cons (pv 14) (pa_cons (pv 15) pa_nil))))
            (pss_cons (ps_if (pt_cmpR op_ne (pe_cmpR op_isN (pv 17) pe_non (nomark _)) (pe_cmpR (op_notInD (units65 hr)) (pe_tup (pa_cons pe_bl (pa_cons pe_bl pa_nil))) (pv 16) (by rfl)) (nomark _)) (pss_one (ps_ret pe_bl)) pss_nil)
            (pss_cons (ps_if (PW.pt (pw_and (pt_cmpR op_notN (pv 17) pe_non (nomark _)) (pw_and1 (pt_not (pt_val (pe_call G__law_fulfils (hr.mono (by first | decide | omega)) rfl T.g__law_fulfils k__law_fulfils b__law_fulfils .nil pass0 (pa_cons (pe_op op_cat (pv 12) (pv 13)) (pa_cons (pv 17) pa_nil)))))))) (pss_one (ps_ret pe_bl)) pss_nil)
            (pss_cons (ps_set (i := 18) sc_law.nd rfl (Or.inl rfl) (pe_call G_covers (hr.mono (by first | decide | omega)) rfl T.g_covers k_covers b_covers .nil pass0 (pa_cons (pv 14) (pa_cons (pv 15) pa_nil))))
            (pss_cons (ps_if (pt_cmpR op_ne (pe_cmpR op_isN (pv 18) pe_non (nomark _)) (pe_cmpR (op_notInD (units65 hr)) (pe_tup (pa_cons pe_bl (pa_cons pe_bl pa_nil))) (pv 16) (by rfl)) (nomark _)) (pss_one (ps_ret pe_bl)) pss_nil)
            (pss_cons (ps_if (PW.pt (pw_and (pt_cmpR op_notN (pv 18) pe_non (nomark _)) (pw_and1 (PW.pt (pw_or (pt_not (pt_val (pe_call G__law_fulfils (hr.mono (by first | decide | omega)) rfl T.g__law_fulfils k__law_fulfils b__law_fulfils .nil pass0 (pa_cons (pv 13) (pa_cons (pv 18) pa_nil))))) (pw_or1 (pt_val (pe_call G__law_fulfils (hr.mono (by first | decide | omega)) rfl T.g__law_fulfils k__law_fulfils b__law_fulfils .nil pass0 (pa_cons (pv 12) (pa_cons (pv 18) pa_nil)))))))))) (pss_one (ps_ret pe_bl)) pss_nil)
            (pss_cons (ps_for PassesOwn.never rfl (pi_tup (pe_tup (pa_cons (pv 17) (pa_cons (pv 18) pa_nil)))) (pg_name (i := 19) sc_law.nd rfl (Or.inl rfl))
              (pss_one (ps_if (pt_cmpR op_notN (pv 19) pe_non (nomark _)) (pss_cons (ps_if (PW.pt (pw_or (pt_not (pt_val (pe_call G_is_labels (hr.mono (by first | decide | omega)) rfl T.g_is_labels k_is_labels b_is_labels .nil pass0 (pa_cons (pv 19) pa_nil)))) (pw_or1 (pt_cmpR op_notBl (pe_call G_matches (hr.mono (by first | decide | omega)) rfl T.g_matches k_matches b_matches .nil pass0 (pa_cons (pv 15) (pa_cons (pv 19) pa_nil))) pe_bl (nomark _))))) (pss_one (ps_ret pe_bl)) pss_nil)
                  (pss_one (ps_expr (pe_dclear (pv 19))))) pss_nil)))
            (pss_cons (ps_if (pt_cmpR op_ne (pe_cmpR op_isN (pe_call G_meets (hr.mono (by first | decide | omega)) rfl T.g_meets k_meets b_meets .nil pass0 (pa_cons (pv 14) (pa_cons (pv 15) pa_nil))) pe_non (nomark _)) (pe_cmpR op_isN (pv 17) pe_non (nomark _)) (nomark _)) (pss_one (ps_ret pe_bl)) pss_nil)
            (pss_one (ps_if (pt_cmpR op_ne (pe_cmpR op_isN (pe_call G_covers (hr.mono (by first | decide | omega)) rfl T.g_covers k_covers b_covers .nil pass0 (pa_cons (pv 14) (pa_cons (pv 15) pa_nil))) pe_non (nomark _)) (pe_cmpR op_isN (pv 18) pe_non (nomark _)) (nomark _)) (pss_one (ps_ret pe_bl)) pss_nil))))))))))))))))))))))))
    (pss_one (ps_ret pe_bl))), ?_⟩
  refine ⟨_, rfl, a, ns, rfl, hS, fun i0 => ⟨smallN (by show 1 ≤ 1000; decide), fun p1 q1 => ?_⟩⟩
  have S1 := Same.new (u := .lst [.int i0]) q1
  have g1 : (upd H p1 (.lst [.int i0])) p1 = _ := upd_same
  generalize upd H p1 (.lst [.int i0]) = H1 at S1 g1 ⊢
  refine ⟨_, rfl, _, rfl, _, rfl, a, _, rfl, S1.seq hS, fun p2 q2 => ?_⟩
  have S2 := Same.new (u := .lst (cutV (ns.map V.int) (some 1) (some 6))) q2
  have g2 : (upd H1 p2 (.lst (cutV (ns.map V.int) (some 1) (some 6)))) p2 = _ := upd_same
  generalize upd H1 p2 (.lst (cutV (ns.map V.int) (some 1) (some 6))) = H2 at S2 g2 ⊢
  have hc : (cutV (ns.map V.int) (some 1) (some 6)).length ≤ 63 := Nat.le_trans (cutV_length _ _ _) (by rw [List.length_map]; exact hlen)
  refine ⟨p1, p2, _, _, rfl, rfl, S2 _ _ g1, g2, smallN (by show 1 + _ ≤ 1000; omega), fun p3 q3 => ?_⟩
  have S3 := Same.new (u := .lst ([.int i0] ++ cutV (ns.map V.int) (some 1) (some 6))) q3
  have g3 : (upd H2 p3 (.lst ([.int i0] ++ cutV (ns.map V.int) (some 1) (some 6)))) p3 = _ := upd_same
  generalize upd H2 p3 (.lst ([.int i0] ++ cutV (ns.map V.int) (some 1) (some 6))) = H3 at S3 g3 ⊢
  have hints : ∀ x ∈ [V.int i0] ++ cutV (ns.map V.int) (some 1) (some 6), ∃ i, x = .int i := fun x hx => by
    rcases List.mem_append.mp hx with hx | hx
    · exact ⟨_, List.mem_singleton.mp hx⟩
    · exact cut_int hx
  generalize [V.int i0] ++ cutV (ns.map V.int) (some 1) (some 6) = cells at g3 hints ⊢
  refine ⟨p3, rfl, ⟨_, SqL.of g3⟩, for_list (K := K) (a := p3) (xs := cells) (fun i σ H' => ∃ v1 v2 v3 v4 v5 v6 v7 v8 v9 v10 v11 v12 v13 v14 v15 v16 v17 v18 v19 v20 v21 : Option V, σ = [some (.ref a), v1, v2, v3, v4, v5, v6, v7, v8, v9, v10, v11, v12, v13, v14, v15, v16, v17, v18, v19, v20, v21] ∧ Same H3 H')
    ⟨_, _, _, _, _, _, _, _, _, _, _, _, _, _, _, _, _, _, _, _, _, rfl, Same.refl _⟩ (fun i σ H' _ ⟨_, _, _, _, _, _, _, _, _, _, _, _, _, _, _, _, _, _, _, _, _, _, sm⟩ => SqL.of (sm _ _ g3)) ?_ (fun σ H' _ => k H')⟩
  rintro i x σ H4 hx ⟨v1, v2, v3, v4, v5, v6, v7, v8, v9, v10, v11, v12, v13, v14, v15, v16, v17, v18, v19, v20, v21, rfl, S4⟩
  obtain ⟨z, rfl⟩ := hints x (mem_at hx)
  refine ⟨_, rfl, z, rfl, fun aw u q5 hu5 => ?_⟩
  have S5 := S4.trans (Same.new (u := u) q5)
  have nA : ∀ b o, H3 b = some o → b ≠ aw := fun b o hb => ne_of_none (S4 _ _ hb) q5
  have w5 := well_upd (H := H4) (a := aw) hu5
  generalize upd H4 aw u = H5 at S5 w5 ⊢
  -- names
  refine ⟨smallN (by show 3 ≤ 1000; decide), fun p6 q6 => ?_⟩
  have K6 := Keep.new (a := aw) (u := .lst (names4.map V.str)) q6
  have w6 := well_new (u := .lst (names4.map V.str)) w5 q6
  have g6 : (upd H5 p6 (.lst (names4.map V.str))) p6 = _ := upd_same
  have n6 : p6 ≠ aw := well_ne3 w5 q6
  have e6 : upd H5 p6 (.lst [V.str "app", .str "tier", .str "zone"]) = upd H5 p6 (.lst (names4.map V.str)) := rfl
  rw [e6]
  clear e6
  generalize upd H5 p6 (.lst (names4.map V.str)) = H6 at K6 w6 g6 ⊢
  refine ⟨_, rfl, aw, 0, 3, rfl, w6, by decide, by decide, by decide, fun r u7 n7 r0 r1 hn7 hu7 => ?_⟩
  have K7 := K6.trans (Keep.at_ (u := u7))
  have w7 := well_upd (H := H6) (a := aw) hu7
  have g7 : upd H6 aw u7 p6 = _ := Keep.at_ _ _ n6 g6
  generalize upd H6 aw u7 = H7 at K7 w7 g7 ⊢
  refine ⟨_, _, rfl, rfl, _, rfl, p6, _, rfl, SqL.of g7, fun p8 q8 => ?_⟩
  obtain ⟨nms, enms, hN⟩ := names_cut r0 r1
  rw [enms]
  have K8 := K7.trans (Keep.new (u := .lst (nms.map V.str)) q8)
  have w8 := well_new (u := .lst (nms.map V.str)) w7 q8
  have g8 : (upd H7 p8 (.lst (nms.map V.str))) p8 = _ := upd_same
  have n8 : p8 ≠ aw := well_ne3 w7 q8
  generalize upd H7 p8 (.lst (nms.map V.str)) = H8 at K8 w8 g8 ⊢
  -- rows
  refine ⟨_, rfl, _, rfl, aw, p8, n7, nms, rfl, w8, by omega, g8, n8, hN, fun L1 rows1 H9 n9 h1 hR1 nL1 K9 w9 hn9 => ?_⟩
  have g9 := K9 _ _ n8 g8
  refine ⟨_, rfl, _, rfl, aw, p8, n9, nms, rfl, w9, by omega, g9, n8, hN, fun L2 rows2 Ha na h2 hR2 nL2 Ka wa hna => ?_⟩
  have hR1a := rows_keep w9 Ka nL1 hR1
  have ga := Ka _ _ n8 g9
  have K5a := K8.trans (K9.trans Ka)
  refine ⟨_, _, rfl, ?_⟩
  refine part_crowd wa (by omega) ga n8 hN h1 h2 hR1a hR2 nL1 nL2 fun pn M1 M2 ns' r1' r2' Hb hN' s1 s2 gn R1 R2 Kb => ?_
  have K5b := K5a.trans Kb
  clear Kb K5a ga hR1a hR2 hR1 g9 wa hna nL1 nL2 h1 h2 w9 hn9 K9 Ka K8 w8 g8 n8 enms g7 w7 K7 hn7 g6 w6 K6 n6 w5 hN rows1 rows2
  -- the values
  have f1 := s1.1.1
  have f2 := s2.1.1
  have lw := wv_len (r1' ++ r2')
  have lu := sortU_len (wv (r1' ++ r2'))
  rw [List.length_append] at lw
  refine set_values R1 R2 s1.1 s2.1 fun pq He1 Se gq => ?_
  refine ⟨smallN (by show 1 ≤ 1000; decide), fun pw qw => ?_⟩
  have Sw := Same.new (u := .lst [.str "nowhere"]) qw
  have gw : (upd He1 pw (.lst [.str "nowhere"])) pw = some (.lst (nowT.map V.str)) := upd_same
  generalize upd He1 pw (.lst [.str "nowhere"]) = Hf at Sw gw ⊢
  refine ⟨pq, pw, _, _, rfl, rfl, Sw _ _ gq, gw, smallN (by rw [List.length_map, List.length_map]; show _ + 1 ≤ 1000; omega), fun pv qv => ?_⟩
  rw [← List.map_append]
  have Sv := Same.new (u := .lst ((sortU (wv (r1' ++ r2')) ++ nowT).map V.str)) qv
  have gv : (upd Hf pv (.lst ((sortU (wv (r1' ++ r2')) ++ nowT).map V.str))) pv = _ := upd_same
  have Sbv := Se.trans (Sw.trans Sv)
  generalize upd Hf pv (.lst ((sortU (wv (r1' ++ r2')) ++ nowT).map V.str)) = Hv at gv Sbv ⊢
  clear Sv qv Sw gw Se gq
  have side1 : Side (sortU (wv (r1' ++ r2'))) ns' r1' := side_of s1.1 s1.2 fun r hr => List.mem_append_left _ hr
  have side2 : Side (sortU (wv (r1' ++ r2'))) ns' r2' := side_of s2.1 s2.2 fun r hr => List.mem_append_right _ hr
  have side3 : Side (sortU (wv (r1' ++ r2'))) ns' [] := ⟨⟨Nat.zero_le _, fun r hr => (nomatch hr)⟩, fun r hr => (nomatch hr), fun r hr => (nomatch hr)⟩
  have lx : (sortU (wv (r1' ++ r2')) ++ nowT).length ≤ 20 := by rw [List.length_append]; show _ + 1 ≤ 20; omega
  have nd := hN'.2.2.1
  have ln := names3 hN'
  generalize sortU (wv (r1' ++ r2')) = xs at gv side1 side2 side3 lx ⊢
  -- all labels
  refine ⟨_, rfl, _, rfl, pn, pv, ns', xs ++ nowT, rfl, Sbv _ _ gn, gv, nd, ln, lx, fun pt Ht St LT => ?_⟩
  have Sbt := Sbv.trans St
  have bigT : (allLab (xs ++ nowT) ns').length ≤ 9261 := Nat.le_trans (allLab_len _ 20 lx ns') (Nat.le_trans (Nat.pow_le_pow_right (by decide) ln) (by decide))
  obtain ⟨ds, gds, hds⟩ := id LT
  have lds := paired_len hds
  -- flags
  refine flags_made (rows_same Sbt R1) (rows_same Sbt R2) LT bigT fun DF fs Hg Sg gDF hfs => ?_
  have Sbg := Sbt.trans Sg
  -- sides
  refine ⟨_, rfl, _, rfl, smallN (by show 0 ≤ 1000; decide), fun pe qe => ⟨smallN (by show 3 ≤ 1000; decide), fun pd qd => ?_⟩⟩
  have Sd := (Same.new (u := .lst []) qe).trans (Same.new (u := .lst [.ref M1, .ref M2, .ref pe]) qd)
  have gd : (upd (upd Hg pe (.lst [])) pd (.lst [.ref M1, .ref M2, .ref pe])) pd = some (.lst ([M1, M2, pe].map V.ref)) := upd_same
  have Re : RowsAt (upd (upd Hg pe (.lst [])) pd (.lst [.ref M1, .ref M2, .ref pe])) pe [] := ⟨[], Same.new qd _ _ upd_same, .nil⟩
  generalize upd (upd Hg pe (.lst [])) pd (.lst [.ref M1, .ref M2, .ref pe]) = Hh at Sd gd Re ⊢
  have Sbh := Sbg.trans Sd
  have rows3 : Paired (RowsAt Hh) [M1, M2, pe] [r1', r2', []] := .cons (rows_same Sbh R1) (.cons (rows_same Sbh R2) (.cons Re .nil))
  have flags3 : Paired (fun f rs => Hh f = some (.lst (flagL (allLab (xs ++ nowT) ns') rs))) fs [r1', r2', []] := Paired.mono (fun _ _ q => Sd _ _ q) hfs
  have gDFh := Sd _ _ gDF
  have sides3 : ∀ rs ∈ [r1', r2', []], Side xs ns' rs := fun rs h => by
    simp only [List.mem_cons, List.not_mem_nil, or_false] at h
    rcases h with rfl | rfl | rfl
    · exact side1
    · exact side2
    · exact side3
  -- the five turns
  refine ⟨smallN (by show 2 ≤ 1000; decide), fun t1 q1' => ⟨smallN (by show 2 ≤ 1000; decide), fun t2 q2' => ⟨smallN (by show 2 ≤ 1000; decide), fun t3 q3' => ⟨smallN (by show 2 ≤ 1000; decide), fun t4 q4' => ⟨smallN (by show 2 ≤ 1000; decide), fun t5 q5' => ⟨smallN (by show 5 ≤ 1000; decide), fun tt qt => ?_⟩⟩⟩⟩⟩⟩
  have c1 := Same.new (u := .tup [.int 0, .int 1]) q1'
  have e1 : (upd Hh t1 (.tup [.int 0, .int 1])) t1 = some (.tup [.int 0, .int 1]) := upd_same
  generalize upd Hh t1 (.tup [V.int 0, V.int 1]) = Hi1 at c1 e1 q2' q3' q4' q5' qt ⊢
  have c2 := Same.new (u := .tup [.int 1, .int 0]) q2'
  have e2 : (upd Hi1 t2 (.tup [.int 1, .int 0])) t2 = some (.tup [.int 1, .int 0]) := upd_same
  generalize upd Hi1 t2 (.tup [V.int 1, V.int 0]) = Hi2 at c2 e2 q3' q4' q5' qt ⊢
  have c3 := Same.new (u := .tup [.int 0, .int 0]) q3'
  have e3 : (upd Hi2 t3 (.tup [.int 0, .int 0])) t3 = some (.tup [.int 0, .int 0]) := upd_same
  generalize upd Hi2 t3 (.tup [V.int 0, V.int 0]) = Hi3 at c3 e3 q4' q5' qt ⊢
  have c4 := Same.new (u := .tup [.int 2, .int 0]) q4'
  have e4 : (upd Hi3 t4 (.tup [.int 2, .int 0])) t4 = some (.tup [.int 2, .int 0]) := upd_same
  generalize upd Hi3 t4 (.tup [V.int 2, V.int 0]) = Hi4 at c4 e4 q5' qt ⊢
  have c5 := Same.new (u := .tup [.int 0, .int 2]) q5'
  have e5 : (upd Hi4 t5 (.tup [.int 0, .int 2])) t5 = some (.tup [.int 0, .int 2]) := upd_same
  generalize upd Hi4 t5 (.tup [V.int 0, V.int 2]) = Hi5 at c5 e5 qt ⊢
  have ct := Same.new (u := .tup ([t1, t2, t3, t4, t5].map V.ref)) qt
  have gt : (upd Hi5 tt (.tup ([t1, t2, t3, t4, t5].map V.ref))) tt = _ := upd_same
  have et : upd Hi5 tt (.tup [.ref t1, .ref t2, .ref t3, .ref t4, .ref t5]) = upd Hi5 tt (.tup ([t1, t2, t3, t4, t5].map V.ref)) := rfl
  rw [et]
  clear et
  generalize upd Hi5 tt (.tup ([t1, t2, t3, t4, t5].map V.ref)) = Hs at ct gt ⊢
  have S5t := c5.trans ct
  have S4t := c4.trans S5t
  have S3t := c3.trans S4t
  have S2t := c2.trans S3t
  have Shs := c1.trans S2t
  have five : Paired (fun t (p : Nat × Nat) => Hs t = some (.tup [.int p.1, .int p.2])) [t1, t2, t3, t4, t5] turns5 := .cons (S2t _ _ e1) (.cons (S3t _ _ e2) (.cons (S4t _ _ e3) (.cons (S5t _ _ e4) (.cons (ct _ _ e5) .nil))))
  clear S2t S3t S4t S5t c1 c2 c3 c4 c5 ct e1 e2 e3 e4 e5 q1' q2' q3' q4' q5' qt
  have rows5 : Paired (RowsAt Hs) [M1, M2, pe] [r1', r2', []] := Paired.mono (fun _ _ => rows_same Shs) rows3
  have flags5 : Paired (fun f rs => Hs f = some (.lst (flagL (allLab (xs ++ nowT) ns') rs))) fs [r1', r2', []] := Paired.mono (fun _ _ q => Shs _ _ q) flags3
  have gd5 := Shs _ _ gd
  have gF5 := Shs _ _ gDFh
  have lfs : fs.length = 3 := paired_len flags5
  have Sbs := Sbh.trans Shs
  have lt5 : ∀ p ∈ turns5, p.1 < 3 ∧ p.2 < 3 := by decide
  refine ⟨tt, rfl, ⟨_, SqT.of gt⟩, for_it (walk_tup (xs := [t1, t2, t3, t4, t5].map V.ref)) (fun j σ H' => ∃ x10 x11 x12 x13 x14 x15 x16 x17 x18 x19 x20 x21 : Option V, σ = [some (.ref a), some (.int z), some (.ref aw), some (.ref pn), some (.ref M1), some (.ref M2), some (.ref pv), some (.ref pt), some (.ref DF), some (.ref pd), x10, x11, x12, x13, x14, x15, x16, x17, x18, x19, x20, x21] ∧ Same Hs H')
    ⟨_, _, _, _, _, _, _, _, _, _, _, _, rfl, Same.refl _⟩ (fun j σ H' _ ⟨_, _, _, _, _, _, _, _, _, _, _, _, _, S⟩ => SqT.of (S _ _ gt)) ?_ ?_⟩
  · rintro j x σ _ J1 hj ⟨x10, x11, x12, x13, x14, x15, x16, x17, x18, x19, x20, x21, rfl, T1⟩ ⟨rfl, hx⟩
    rw [List.getElem?_map] at hx
    obtain ⟨t, et, rfl⟩ := Option.map_eq_some_iff.mp hx
    obtain ⟨⟨i1, i2⟩, ei, gti⟩ := paired_at five et
    obtain ⟨li1, li2⟩ := lt5 _ (mem_at ei)
    dsimp only at li1 li2 gti
    obtain ⟨Lm, eLm⟩ : ∃ L, [M1, M2, pe][i1]? = some L := ⟨_, List.getElem?_eq_getElem (by show i1 < 3; exact li1)⟩
    obtain ⟨Li, eLi⟩ : ∃ L, [M1, M2, pe][i2]? = some L := ⟨_, List.getElem?_eq_getElem (by show i2 < 3; exact li2)⟩
    obtain ⟨mine, emine, hRm⟩ := paired_at rows5 eLm
    obtain ⟨its, eits, hRi⟩ := paired_at rows5 eLi
    obtain ⟨fm, efm⟩ : ∃ f, fs[i1]? = some f := ⟨_, List.getElem?_eq_getElem (by omega)⟩
    obtain ⟨fi, efi⟩ : ∃ f, fs[i2]? = some f := ⟨_, List.getElem?_eq_getElem (by omega)⟩
    obtain ⟨mine', emine', gfm⟩ := paired_at flags5 efm
    obtain ⟨its', eits', gfi⟩ := paired_at flags5 efi
    obtain rfl : mine' = mine := Option.some.inj (emine'.symm.trans emine)
    obtain rfl : its' = its := Option.some.inj (eits'.symm.trans eits)
    have sm := sides3 _ (mem_at emine)
    have si := sides3 _ (mem_at eits)
    have em : ([M1, M2, pe].map V.ref)[i1]? = some (.ref Lm) := by rw [List.getElem?_map, eLm]; rfl
    have ei' : ([M1, M2, pe].map V.ref)[i2]? = some (.ref Li) := by rw [List.getElem?_map, eLi]; rfl
    have efm' : (fs.map V.ref)[i1]? = some (.ref fm) := by rw [List.getElem?_map, efm]; rfl
    have efi' : (fs.map V.ref)[i2]? = some (.ref fi) := by rw [List.getElem?_map, efi]; rfl
    refine ⟨t, _, rfl, SqT.of (T1 _ _ gti), rfl, _, _, rfl, _, _, rfl, rfl, ?_⟩
    refine ⟨_, rfl, _, rfl, pd, _, _, _, rfl, rfl, SqL.of (T1 _ _ gd5), atI_nat em, _, rfl, _, rfl, pd, _, _, _, rfl, rfl, SqL.of (T1 _ _ gd5), atI_nat ei', _, _, rfl, ?_⟩
    refine ⟨_, rfl, Lm, mine', rfl, rows_same T1 hRm, sm.few, fun J2 T2 => ⟨_, rfl, Li, its', rfl, rows_same (T1.trans T2) hRi, si.few, fun J3 T3 => ⟨_, _, rfl, ?_⟩⟩⟩
    have T13 := T1.trans (T2.trans T3)
    have lz : (flagL (allLab (xs ++ nowT) ns') mine').length = (flagL (allLab (xs ++ nowT) ns') its').length := by unfold flagL; rw [List.length_map, List.length_map]
    have lz2 : (flagL (allLab (xs ++ nowT) ns') mine').length ≤ 100000 := by unfold flagL; rw [List.length_map]; omega
    refine ⟨_, rfl, _, rfl, DF, _, _, _, rfl, rfl, SqL.of (T13 _ _ gF5), atI_nat efm', _, rfl, _, rfl, DF, _, _, _, rfl, rfl, SqL.of (T13 _ _ gF5), atI_nat efi', fm, fi, _, _, rfl, SqL.of (T13 _ _ gfm), SqL.of (T13 _ _ gfi), lz, lz2, fun pp ts J4 T4 fpp gpp prs => ?_⟩
    have T14 := T13.trans T4
    have pairs : PairsAt J4 pp (allLab (xs ++ nowT) ns') mine' its' := ⟨ts, gpp, by
      unfold flagL at prs
      rw [zip_two] at prs
      have p2 := paired_map prs
      exact paired_unmap p2⟩
    refine part_meets nd ln sm si (rows_same T14 hRm) (rows_same T14 hRi) pairs fun v J5 T5 told hv => ?_
    refine part_covers nd ln sm si (rows_same (T14.trans T5) hRm) (rows_same (T14.trans T5) hRi) (pairs_same T5 pairs) fun v' J6 T6 told' hv' => ?_
    refine part_labels (H0 := J4) si.few (T5.trans T6) (told.elim .inl fun ⟨p, l, b1, b2, b3, b4⟩ => .inr ⟨p, l, b1, b2, T6 _ _ b3, b4⟩) (told'.elim .inl fun ⟨p, l, b1, b2, b3, b4⟩ => .inr ⟨p, l, b1, T5.free b2, b3, b4⟩) (fun p q ep eq => ?_) fun x19' J7 T7 => ?_
    · rcases told with e | ⟨p', l, b1, b2, b3, b4⟩
      · rw [e] at ep; cases ep
      · rcases told' with e | ⟨q', l', d1, d2, d3, d4⟩
        · rw [e] at eq; cases eq
        · rw [b1] at ep
          rw [d1] at eq
          cases ep
          cases eq
          exact ne_of_none b3 d2
    · refine part_again nd ln sm si hv hv' fun J8 T8 => ?_
      exact ⟨_, _, _, _, _, _, _, _, _, _, _, _, rfl, T14.trans (T7.trans T8)⟩
  · rintro σ J1 ⟨x10, x11, x12, x13, x14, x15, x16, x17, x18, x19, x20, x21, rfl, T1⟩
    exact ⟨_, _, _, _, _, _, _, _, _, _, _, _, _, _, _, _, _, _, _, _, _, rfl, fun b o hb => T1 _ _ (Sbs _ _ (K5b _ _ (nA b o hb) (S5 _ _ hb)))⟩

def dd_is_user_name : He.DefD := ⟨("is_user_name", none), "is_user_name", "is_user_name", defArgs s_is_user_name, defBody s_is_user_name, defScope s_is_user_name, [], []⟩
def dd_is_label_value : He.DefD := ⟨("is_label_value", none), "is_label_value", "is_label_value", defArgs s_is_label_value, defBody s_is_label_value, defScope s_is_label_value, [], []⟩
def dd_is_labels : He.DefD := ⟨("is_labels", none), "is_labels", "is_labels", defArgs s_is_labels, defBody s_is_labels, defScope s_is_labels, [], []⟩
def dd_requirement : He.DefD := ⟨("requirement", none), "requirement", "requirement", defArgs s_requirement, defBody s_requirement, defScope s_requirement, [], []⟩
def dd_rows_of : He.DefD := ⟨("rows_of", none), "rows_of", "rows_of", defArgs s_rows_of, defBody s_rows_of, defScope s_rows_of, [], []⟩
def dd_requirements : He.DefD := ⟨("requirements", none), "requirements", "requirements", defArgs s_requirements, defBody s_requirements, defScope s_requirements, [], []⟩
def dd_is_fulfilled : He.DefD := ⟨("is_fulfilled", none), "is_fulfilled", "is_fulfilled", defArgs s_is_fulfilled, defBody s_is_fulfilled, defScope s_is_fulfilled, [], []⟩
def dd_matches : He.DefD := ⟨("matches", none), "matches", "matches", defArgs s_matches, defBody s_matches, defScope s_matches, [], []⟩
def dd_bound_of : He.DefD := ⟨("bound_of", none), "bound_of", "bound_of", defArgs s_bound_of, defBody s_bound_of, defScope s_bound_of, [], []⟩
def dd_bounds_of : He.DefD := ⟨("bounds_of", none), "bounds_of", "bounds_of", defArgs s_bounds_of, defBody s_bounds_of, defScope s_bounds_of, [], []⟩
def dd_needed : He.DefD := ⟨("needed", none), "needed", "needed", defArgs s_needed, defBody s_needed, defScope s_needed, [], []⟩
def dd_labels_for : He.DefD := ⟨("labels_for", none), "labels_for", "labels_for", defArgs s_labels_for, defBody s_labels_for, defScope s_labels_for, [], []⟩
def dd_meets : He.DefD := ⟨("meets", none), "meets", "meets", defArgs s_meets, defBody s_meets, defScope s_meets, [], []⟩
def dd_covers : He.DefD := ⟨("covers", none), "covers", "covers", defArgs s_covers, defBody s_covers, defScope s_covers, [], []⟩
def dd__law_cell_at : He.DefD := ⟨("_law_cell_at", none), "_law_cell_at", "_law_cell_at", defArgs s__law_cell_at, defBody s__law_cell_at, defScope s__law_cell_at, [], []⟩
def dd__law_source : He.DefD := ⟨("_law_source", none), "_law_source", "_law_source", defArgs s__law_source, defBody s__law_source, defScope s__law_source, [], []⟩
def dd__law_draw : He.DefD := ⟨("_law_draw", none), "_law_draw", "_law_draw", defArgs s__law_draw, defBody s__law_draw, defScope s__law_draw, [], []⟩
def dd__law_pick : He.DefD := ⟨("_law_pick", none), "_law_pick", "_law_pick", defArgs s__law_pick, defBody s__law_pick, defScope s__law_pick, [], []⟩
def dd__law_value : He.DefD := ⟨("_law_value", none), "_law_value", "_law_value", defArgs s__law_value, defBody s__law_value, defScope s__law_value, [], []⟩
def dd__law_requirement : He.DefD := ⟨("_law_requirement", none), "_law_requirement", "_law_requirement", defArgs s__law_requirement, defBody s__law_requirement, defScope s__law_requirement, [], []⟩
def dd__law_text : He.DefD := ⟨("_law_text", none), "_law_text", "_law_text", defArgs s__law_text, defBody s__law_text, defScope s__law_text, [], []⟩
def dd__law_rows : He.DefD := ⟨("_law_rows", none), "_law_rows", "_law_rows", defArgs s__law_rows, defBody s__law_rows, defScope s__law_rows, [], []⟩
def dd__law_fulfils : He.DefD := ⟨("_law_fulfils", none), "_law_fulfils", "_law_fulfils", defArgs s__law_fulfils, defBody s__law_fulfils, defScope s__law_fulfils, [], []⟩
def dd__law_all_labels : He.DefD := ⟨("_law_all_labels", none), "_law_all_labels", "_law_all_labels", defArgs s__law_all_labels, defBody s__law_all_labels, defScope s__law_all_labels, [], []⟩
def dd__law_crowded : He.DefD := ⟨("_law_crowded", none), "_law_crowded", "_law_crowded", defArgs s__law_crowded, defBody s__law_crowded, defScope s__law_crowded, [], []⟩
def dd_law : He.DefD := ⟨("law", none), "law", "law", defArgs s_law, defBody s_law, defScope s_law, [], []⟩
def fn : List He.DefD := [dd_is_user_name, dd_is_label_value, dd_is_labels, dd_requirement, dd_rows_of, dd_requirements, dd_is_fulfilled, dd_matches, dd_bound_of, dd_bounds_of, dd_needed, dd_labels_for, dd_meets, dd_covers, dd__law_cell_at, dd__law_source, dd__law_draw, dd__law_pick, dd__law_value, dd__law_requirement, dd__law_text, dd__law_rows, dd__law_fulfils, dd__law_all_labels, dd__law_crowded, dd_law]
def fa : List He.Fa := [.glo "is_user_name", .glo "is_label_value", .glo "is_labels", .glo "requirement", .glo "rows_of", .glo "requirements", .glo "is_fulfilled", .glo "matches", .glo "bound_of", .glo "bounds_of", .glo "needed", .glo "labels_for", .glo "meets", .glo "covers", .glo "_law_cell_at", .glo "_law_source", .glo "_law_draw", .glo "_law_pick", .glo "_law_value", .glo "_law_requirement", .glo "_law_text", .glo "_law_rows", .glo "_law_fulfils", .glo "_law_all_labels", .glo "_law_crowded", .glo "law", .glo "PlaneError", .glo "BadSelector", .glo "BadLabels", .free "len", .free "int", .free "str", .free "list", .free "dict", .free "set", .free "range", .free "isinstance", .free "all", .free "sorted", .free "zip", .free "ValueError", .str "SMALL" "abcdefghijklmnopqrstuvwxyz", .str "DIGITS" "0123456789", .int "MOST_SIGNS" 10, .int "MOST_LABELS" 8, .int "MOST_REQUIREMENTS" 8, .int "MOST_LETTERS" 24, .glo "OPPOSITE"]
def tf : List He.Defn := []
def ts : List He.Tab := [((fun K => He.ga K "OPPOSITE"), ["is", "not", "there", "missing"])]
abbrev R : PySem.W.OpenRow := PySem.W.OpenLaw.row PySem.Challenge.rw_controlplane_k04_whole_selectors_that_me
abbrev hk : PySem.W.Hook := hookY fa fn ts tf exB
def ob (s : PySem.W.SharedT) : He.AlX := obsY fa fn ts tf exB (HandSHeadRun.getT s)
theorem ob_eq (s : PySem.W.SharedT) : ob s = hk.obs s.abs := obsY_eq (HandSHeadRun.getT_eq s)
theorem run (w : World) : HandSHeadRun.RunEq R (PySem.W.view R.prog [39]) hk ob 2000 [("__name__" : PySem.Str), ("PlaneError" : PySem.Str), ("BadSelector" : PySem.Str), ("BadLabels" : PySem.Str), ("is_user_name" : PySem.Str), ("is_label_value" : PySem.Str), ("is_labels" : PySem.Str), ("requirement" : PySem.Str), ("rows_of" : PySem.Str), ("requirements" : PySem.Str), ("is_fulfilled" : PySem.Str), ("matches" : PySem.Str), ("bound_of" : PySem.Str), ("bounds_of" : PySem.Str), ("needed" : PySem.Str), ("labels_for" : PySem.Str), ("meets" : PySem.Str), ("covers" : PySem.Str), ("_law_cell_at" : PySem.Str), ("_law_source" : PySem.Str), ("_law_draw" : PySem.Str), ("_law_pick" : PySem.Str), ("_law_value" : PySem.Str), ("_law_requirement" : PySem.Str), ("_law_text" : PySem.Str), ("_law_rows" : PySem.Str), ("_law_fulfils" : PySem.Str), ("_law_all_labels" : PySem.Str), ("_law_crowded" : PySem.Str), ("SMALL" : PySem.Str), ("DIGITS" : PySem.Str), ("MOST_SIGNS" : PySem.Str), ("MOST_LABELS" : PySem.Str), ("MOST_REQUIREMENTS" : PySem.Str), ("MOST_LETTERS" : PySem.Str), ("OPPOSITE" : PySem.Str)] w := PySem.W.byRow2 "special-get-raises" (P := fun w => HandSHeadRun.RunEq R (PySem.W.view R.prog [39]) hk ob 2000 [("__name__" : PySem.Str), ("PlaneError" : PySem.Str), ("BadSelector" : PySem.Str), ("BadLabels" : PySem.Str), ("is_user_name" : PySem.Str), ("is_label_value" : PySem.Str), ("is_labels" : PySem.Str), ("requirement" : PySem.Str), ("rows_of" : PySem.Str), ("requirements" : PySem.Str), ("is_fulfilled" : PySem.Str), ("matches" : PySem.Str), ("bound_of" : PySem.Str), ("bounds_of" : PySem.Str), ("needed" : PySem.Str), ("labels_for" : PySem.Str), ("meets" : PySem.Str), ("covers" : PySem.Str), ("_law_cell_at" : PySem.Str), ("_law_source" : PySem.Str), ("_law_draw" : PySem.Str), ("_law_pick" : PySem.Str), ("_law_value" : PySem.Str), ("_law_requirement" : PySem.Str), ("_law_text" : PySem.Str), ("_law_rows" : PySem.Str), ("_law_fulfils" : PySem.Str), ("_law_all_labels" : PySem.Str), ("_law_crowded" : PySem.Str), ("SMALL" : PySem.Str), ("DIGITS" : PySem.Str), ("MOST_SIGNS" : PySem.Str), ("MOST_LABELS" : PySem.Str), ("MOST_REQUIREMENTS" : PySem.Str), ("MOST_LETTERS" : PySem.Str), ("OPPOSITE" : PySem.Str)] w) (fun w => by intro os; kernel_rfl) (fun w => by intro os; kernel_rfl) w
theorem facts {P : Program} {w : World} {K : PySem.W.Frag} {h : Heap} {mg : Str → Option Value} {f : Addr} (X : K.In h) (G : h.Ns mainGlobals mg) (hfa : mg ("law" : Str) = some (.ref f)) (c : He.SaysX fa fn ts tf exB w h K) :
    ∃ fd : FuncData, (∀ (s : Shared) (v : Value), BindsTo s fd ⟨[v], []⟩ [("_law_script", v)]) ∧ ∀ base : Heap, K.In base → base.Ns mainGlobals mg → FnOk P w K mg base CX0 6 f fd ["_law_script"] (sp_law K) := by
  have cd := c.t.d
  have T : Txt K mg w := ⟨He.glo_ok X G (cd.fact 0 (f := .glo "is_user_name") rfl),
    cd.def_ 0 (d := dd_is_user_name) rfl,
    He.glo_ok X G (cd.fact 1 (f := .glo "is_label_value") rfl),
    cd.def_ 1 (d := dd_is_label_value) rfl,
    He.glo_ok X G (cd.fact 2 (f := .glo "is_labels") rfl),
    cd.def_ 2 (d := dd_is_labels) rfl,
    He.glo_ok X G (cd.fact 3 (f := .glo "requirement") rfl),
    cd.def_ 3 (d := dd_requirement) rfl,
    He.glo_ok X G (cd.fact 4 (f := .glo "rows_of") rfl),
    cd.def_ 4 (d := dd_rows_of) rfl,
    He.glo_ok X G (cd.fact 5 (f := .glo "requirements") rfl),
    cd.def_ 5 (d := dd_requirements) rfl,
    He.glo_ok X G (cd.fact 6 (f := .glo "is_fulfilled") rfl),
    cd.def_ 6 (d := dd_is_fulfilled) rfl,
    He.glo_ok X G (cd.fact 7 (f := .glo "matches") rfl),
    cd.def_ 7 (d := dd_matches) rfl,
    He.glo_ok X G (cd.fact 8 (f := .glo "bound_of") rfl),
    cd.def_ 8 (d := dd_bound_of) rfl,
    He.glo_ok X G (cd.fact 9 (f := .glo "bounds_of") rfl),
    cd.def_ 9 (d := dd_bounds_of) rfl,
    He.glo_ok X G (cd.fact 10 (f := .glo "needed") rfl),
    cd.def_ 10 (d := dd_needed) rfl,
    He.glo_ok X G (cd.fact 11 (f := .glo "labels_for") rfl),
    cd.def_ 11 (d := dd_labels_for) rfl,
    He.glo_ok X G (cd.fact 12 (f := .glo "meets") rfl),
    cd.def_ 12 (d := dd_meets) rfl,
    He.glo_ok X G (cd.fact 13 (f := .glo "covers") rfl),
    cd.def_ 13 (d := dd_covers) rfl,
    He.glo_ok X G (cd.fact 14 (f := .glo "_law_cell_at") rfl),
    cd.def_ 14 (d := dd__law_cell_at) rfl,
    He.glo_ok X G (cd.fact 15 (f := .glo "_law_source") rfl),
    cd.def_ 15 (d := dd__law_source) rfl,
    He.glo_ok X G (cd.fact 16 (f := .glo "_law_draw") rfl),
    cd.def_ 16 (d := dd__law_draw) rfl,
    He.glo_ok X G (cd.fact 17 (f := .glo "_law_pick") rfl),
    cd.def_ 17 (d := dd__law_pick) rfl,
    He.glo_ok X G (cd.fact 18 (f := .glo "_law_value") rfl),
    cd.def_ 18 (d := dd__law_value) rfl,
    He.glo_ok X G (cd.fact 19 (f := .glo "_law_requirement") rfl),
    cd.def_ 19 (d := dd__law_requirement) rfl,
    He.glo_ok X G (cd.fact 20 (f := .glo "_law_text") rfl),
    cd.def_ 20 (d := dd__law_text) rfl,
    He.glo_ok X G (cd.fact 21 (f := .glo "_law_rows") rfl),
    cd.def_ 21 (d := dd__law_rows) rfl,
    He.glo_ok X G (cd.fact 22 (f := .glo "_law_fulfils") rfl),
    cd.def_ 22 (d := dd__law_fulfils) rfl,
    He.glo_ok X G (cd.fact 23 (f := .glo "_law_all_labels") rfl),
    cd.def_ 23 (d := dd__law_all_labels) rfl,
    He.glo_ok X G (cd.fact 24 (f := .glo "_law_crowded") rfl),
    cd.def_ 24 (d := dd__law_crowded) rfl,
    He.glo_ok X G (cd.fact 25 (f := .glo "law") rfl),
    cd.def_ 25 (d := dd_law) rfl,
    He.glo_ok X G (cd.fact 26 (f := .glo "PlaneError") rfl),
    He.glo_ok X G (cd.fact 27 (f := .glo "BadSelector") rfl),
    He.glo_ok X G (cd.fact 28 (f := .glo "BadLabels") rfl),
    He.free_ok X G (cd.fact 29 (f := .free "len") rfl),
    He.free_ok X G (cd.fact 30 (f := .free "int") rfl),
    He.free_ok X G (cd.fact 31 (f := .free "str") rfl),
    He.free_ok X G (cd.fact 32 (f := .free "list") rfl),
    He.free_ok X G (cd.fact 33 (f := .free "dict") rfl),
    He.free_ok X G (cd.fact 34 (f := .free "set") rfl),
    He.free_ok X G (cd.fact 35 (f := .free "range") rfl),
    He.free_ok X G (cd.fact 36 (f := .free "isinstance") rfl),
    He.free_ok X G (cd.fact 37 (f := .free "all") rfl),
    He.free_ok X G (cd.fact 38 (f := .free "sorted") rfl),
    He.free_ok X G (cd.fact 39 (f := .free "zip") rfl),
    He.free_ok X G (cd.fact 40 (f := .free "ValueError") rfl),
    He.str_ok X G (cd.fact 41 (f := .str "SMALL" "abcdefghijklmnopqrstuvwxyz") rfl),
    He.str_ok X G (cd.fact 42 (f := .str "DIGITS" "0123456789") rfl),
    He.int_ok X G (cd.fact 43 (f := .int "MOST_SIGNS" 10) rfl),
    He.int_ok X G (cd.fact 44 (f := .int "MOST_LABELS" 8) rfl),
    He.int_ok X G (cd.fact 45 (f := .int "MOST_REQUIREMENTS" 8) rfl),
    He.int_ok X G (cd.fact 46 (f := .int "MOST_LETTERS" 24) rfl),
    He.glo_ok X G (cd.fact 47 (f := .glo "OPPOSITE") rfl),
    c.more,
    c.t.tab 0 rfl⟩
  obtain ⟨fd, F⟩ := T.d_law
  have e := hfa.symm.trans T.g_law
  cases e
  have b := FunD.bindsA (ps := ["_law_script"]) F fun _ _ _ _ _ _ us hl => match us, hl with | [_], _ => rfl
  exact ⟨fd, fun s v => b s [v] rfl, fun base _ _ => ok_law T F⟩
end Lk
open PySem PySem.W PySem.Calls PyProof.Rows
theorem PySem.Challenge.cw_controlplane_k04_whole_selectors_that_me_holds : PySem.Challenge.rw_controlplane_k04_whole_selectors_that_me.Holds := by
  w_on; o_law
  refine HandSHeadRun.head_any (r := OpenLaw.row PySem.Challenge.rw_controlplane_k04_whole_selectors_that_me) (q := view (OpenLaw.row PySem.Challenge.rw_controlplane_k04_whole_selectors_that_me).prog [39]) (H := Lk.hk) (ob := Lk.ob) (M := 2000) (loose := [("__name__" : PySem.Str), ("PlaneError" : PySem.Str), ("BadSelector" : PySem.Str), ("BadLabels" : PySem.Str), ("is_user_name" : PySem.Str), ("is_label_value" : PySem.Str), ("is_labels" : PySem.Str), ("requirement" : PySem.Str), ("rows_of" : PySem.Str), ("requirements" : PySem.Str), ("is_fulfilled" : PySem.Str), ("matches" : PySem.Str), ("bound_of" : PySem.Str), ("bounds_of" : PySem.Str), ("needed" : PySem.Str), ("labels_for" : PySem.Str), ("meets" : PySem.Str), ("covers" : PySem.Str), ("_law_cell_at" : PySem.Str), ("_law_source" : PySem.Str), ("_law_draw" : PySem.Str), ("_law_pick" : PySem.Str), ("_law_value" : PySem.Str), ("_law_requirement" : PySem.Str), ("_law_text" : PySem.Str), ("_law_rows" : PySem.Str), ("_law_fulfils" : PySem.Str), ("_law_all_labels" : PySem.Str), ("_law_crowded" : PySem.Str), ("SMALL" : PySem.Str), ("DIGITS" : PySem.Str), ("MOST_SIGNS" : PySem.Str), ("MOST_LABELS" : PySem.Str), ("MOST_REQUIREMENTS" : PySem.Str), ("MOST_LETTERS" : PySem.Str), ("OPPOSITE" : PySem.Str)]) (d := HandSHeadRun.topDef (OpenLaw.row PySem.Challenge.rw_controlplane_k04_whole_selectors_that_me).prog 39) (kwd := []) Lk.ob_eq
    (by kernel_rfl) (fun s => by kernel_rfl) Lk.run (by kernel_rfl) (by kernel_rfl) (by kernel_rfl) (by rfl) (by first | assumption | decide +kernel) (by decide +kernel) ⟨rfl, rfl, rfl, rfl, rfl, by decide +kernel⟩ ?hw ?hc
  case hw => w_witness2
  case hc =>
    refine L2.walk_ofE (l := PySem.Challenge.rw_controlplane_k04_whole_selectors_that_me) (n := 63) (k := 6) (x := "_law_script") (CX := L2.CX0) rfl (by decide) (by kernel_rfl) ⟨rfl, by decide, by decide⟩ ?F (fun _ _ _ _ z => z)
    intro w mg fa h Y G hmg0
    obtain ⟨K, KX, c⟩ := Y
    have hmg : mg ("law" : PySem.Str) = some (.ref fa) := by
      have e : (HandSHeadRun.topDef (OpenLaw.row PySem.Challenge.rw_controlplane_k04_whole_selectors_that_me).prog 39).name = ("law" : PySem.Str) := by kernel_rfl
      rw [← e]
      exact hmg0
    obtain ⟨fd, hb, hF⟩ := Lk.facts (P := (PySem.Challenge.rw_controlplane_k04_whole_selectors_that_me).prog) (w := w) KX G hmg c
    exact ⟨K, fd, Lk.sp_law K, KX, hb, fun H a ns hl _ hS => ⟨a, ns, rfl, hS, hl, fun _ => rfl⟩, hF⟩

