import PyProof.Rows.All
import Wide.All
import OpenK.AllK
import Wide.FinOn
import KE.KStateDown
import Lean
import HandS.ForMost
import HandS.Flow
import HandS.Style
import HandS.Wide
import HandS.IsInst
import HandS.TupAny
import HandS.More
import HandS.WordsExc
import HandS.Defaults
import HandS.Lambda
import HandS.Head0
import HandS.Head1
import HandS.Head2
import HandS.HeadEnd
import HandS.HeadHook1
import HandS.HeadHook2
import HandS.Walk
import HandS.TryOnly
import HandS.StrSplit
import PyProof.Rows.StrSplitMax
import PyProof.StrLawsOccR
import HandS.FStr
import HandS.ExcInit
import HandS.ExcField
import HandS.ExcOwn
import KE.KExcIs
import HandS.HeadHook3
import HandS.HeadHook4
import HandS.HeadWalk
import HandS.EndTab
import HandS.WrittenGet
import PyProof.Rows.StrRev
import KE.KRevSl
import HandS.Replace
import PySem.Challenge.RW_controlplane_k02_what_is_no_name
set_option Elab.async false
set_option linter.all false
set_option maxRecDepth 100000
set_option maxHeartbeats 4000000
namespace Lk
open PySem PySem.Spec PyProof.Rows L2
def topS (i : Nat) : Stmt := PySem.Challenge.pw_controlplane_k02_what_is_no_name.main.body.getD i (.Pass ⟨0, 0, 0, 0⟩)
abbrev s_is_integer : Stmt := topS 16
abbrev N_is_integer : List Str := ["value"]
abbrev ps_is_integer : List Str := ["value"]
theorem sc_is_integer : FnScope N_is_integer ps_is_integer (defScope s_is_integer) := ⟨rfl, rfl, rfl, by decide +kernel, rfl, by decide +kernel, by decide +kernel⟩
abbrev s_is_user_name : Stmt := topS 17
abbrev N_is_user_name : List Str := ["value", "sign"]
abbrev ps_is_user_name : List Str := ["value"]
theorem sc_is_user_name : FnScope N_is_user_name ps_is_user_name (defScope s_is_user_name) := ⟨rfl, rfl, rfl, by decide +kernel, rfl, by decide +kernel, by decide +kernel⟩
abbrev s_number_of : Stmt := topS 18
abbrev N_number_of : List Str := ["text", "highest", "sign"]
abbrev ps_number_of : List Str := ["text", "highest"]
theorem sc_number_of : FnScope N_number_of ps_number_of (defScope s_number_of) := ⟨rfl, rfl, rfl, by decide +kernel, rfl, by decide +kernel, by decide +kernel⟩
abbrev s_part_of : Stmt := topS 19
abbrev N_part_of : List Str := ["letter", "text"]
abbrev ps_part_of : List Str := ["letter", "text"]
theorem sc_part_of : FnScope N_part_of ps_part_of (defScope s_part_of) := ⟨rfl, rfl, rfl, by decide +kernel, rfl, by decide +kernel, by decide +kernel⟩
abbrev s_apart : Stmt := topS 20
abbrev N_apart : List Str := ["value", "maker", "end", "what"]
abbrev ps_apart : List Str := ["value"]
theorem sc_apart : FnScope N_apart ps_apart (defScope s_apart) := ⟨rfl, rfl, rfl, by decide +kernel, rfl, by decide +kernel, by decide +kernel⟩
abbrev s_is_maker : Stmt := topS 21
abbrev N_is_maker : List Str := ["value", "letter", "told"]
abbrev ps_is_maker : List Str := ["value", "letter"]
theorem sc_is_maker : FnScope N_is_maker ps_is_maker (defScope s_is_maker) := ⟨rfl, rfl, rfl, by decide +kernel, rfl, by decide +kernel, by decide +kernel⟩
abbrev s_is_name : Stmt := topS 22
abbrev N_is_name : List Str := ["value"]
abbrev ps_is_name : List Str := ["value"]
theorem sc_is_name : FnScope N_is_name ps_is_name (defScope s_is_name) := ⟨rfl, rfl, rfl, by decide +kernel, rfl, by decide +kernel, by decide +kernel⟩
abbrev s_made_name : Stmt := topS 23
abbrev N_made_name : List Str := ["maker", "letter", "what"]
abbrev ps_made_name : List Str := ["maker", "letter", "what"]
theorem sc_made_name : FnScope N_made_name ps_made_name (defScope s_made_name) := ⟨rfl, rfl, rfl, by decide +kernel, rfl, by decide +kernel, by decide +kernel⟩
abbrev s_taken_apart : Stmt := topS 24
abbrev N_taken_apart : List Str := ["name", "found"]
abbrev ps_taken_apart : List Str := ["name"]
theorem sc_taken_apart : FnScope N_taken_apart ps_taken_apart (defScope s_taken_apart) := ⟨rfl, rfl, rfl, by decide +kernel, rfl, by decide +kernel, by decide +kernel⟩
abbrev s__law_cell_at : Stmt := topS 26
abbrev N__law_cell_at : List Str := ["_law_script", "_law_k"]
abbrev ps__law_cell_at : List Str := ["_law_script", "_law_k"]
theorem sc__law_cell_at : FnScope N__law_cell_at ps__law_cell_at (defScope s__law_cell_at) := ⟨rfl, rfl, rfl, by decide +kernel, rfl, by decide +kernel, by decide +kernel⟩
abbrev s__law_source : Stmt := topS 27
abbrev N__law_source : List Str := ["_law_cell"]
abbrev ps__law_source : List Str := ["_law_cell"]
theorem sc__law_source : FnScope N__law_source ps__law_source (defScope s__law_source) := ⟨rfl, rfl, rfl, by decide +kernel, rfl, by decide +kernel, by decide +kernel⟩
abbrev s__law_draw : Stmt := topS 28
abbrev N__law_draw : List Str := ["_law_source_here", "_law_size", "_law_digit", "_law_number_here"]
abbrev ps__law_draw : List Str := ["_law_source_here", "_law_size"]
theorem sc__law_draw : FnScope N__law_draw ps__law_draw (defScope s__law_draw) := ⟨rfl, rfl, rfl, by decide +kernel, rfl, by decide +kernel, by decide +kernel⟩
abbrev s__law_pick : Stmt := topS 29
abbrev N__law_pick : List Str := ["_law_source_here", "_law_items"]
abbrev ps__law_pick : List Str := ["_law_source_here", "_law_items"]
theorem sc__law_pick : FnScope N__law_pick ps__law_pick (defScope s__law_pick) := ⟨rfl, rfl, rfl, by decide +kernel, rfl, by decide +kernel, by decide +kernel⟩
abbrev s__law_user_name : Stmt := topS 30
abbrev N__law_user_name : List Str := ["_law_source_here", "_law_signs", "_law_first", "_law_size", "_law_k"]
abbrev ps__law_user_name : List Str := ["_law_source_here"]
theorem sc__law_user_name : FnScope N__law_user_name ps__law_user_name (defScope s__law_user_name) := ⟨rfl, rfl, rfl, by decide +kernel, rfl, by decide +kernel, by decide +kernel⟩
abbrev s__law_is_user : Stmt := topS 31
abbrev N__law_is_user : List Str := ["_law_value", "_law_sign"]
abbrev ps__law_is_user : List Str := ["_law_value"]
theorem sc__law_is_user : FnScope N__law_is_user ps__law_is_user (defScope s__law_is_user) := ⟨rfl, rfl, rfl, by decide +kernel, rfl, by decide +kernel, by decide +kernel⟩
abbrev s__law_number : Stmt := topS 32
abbrev N__law_number : List Str := ["_law_text", "_law_most", "_law_sign"]
abbrev ps__law_number : List Str := ["_law_text", "_law_most"]
theorem sc__law_number : FnScope N__law_number ps__law_number (defScope s__law_number) := ⟨rfl, rfl, rfl, by decide +kernel, rfl, by decide +kernel, by decide +kernel⟩
abbrev s__law_apart : Stmt := topS 33
abbrev N__law_apart : List Str := ["_law_value", "_law_at", "_law_maker", "_law_letter", "_law_end", "_law_what", "_law_above"]
abbrev ps__law_apart : List Str := ["_law_value"]
theorem sc__law_apart : FnScope N__law_apart ps__law_apart (defScope s__law_apart) := ⟨rfl, rfl, rfl, by decide +kernel, rfl, by decide +kernel, by decide +kernel⟩
abbrev s__law_refused : Stmt := topS 34
abbrev N__law_refused : List Str := ["_law_call", "e", "_law_marks"]
abbrev ps__law_refused : List Str := ["_law_call"]
theorem sc__law_refused : FnScope N__law_refused ps__law_refused (defScope s__law_refused) := ⟨rfl, rfl, rfl, by decide +kernel, rfl, by decide +kernel, by decide +kernel⟩
abbrev s_law : Stmt := topS 35
abbrev N_law : List Str := ["_law_script", "_law_cell", "_law_source_here", "_law_odds", "_law_odd", "_law_maker", "_law_letter", "_law_some", "_law_bad", "_law_what", "_law_good", "_law_deep", "_law_most"]
abbrev ps_law : List Str := ["_law_script"]
theorem sc_law : FnScope N_law ps_law (defScope s_law) := ⟨rfl, rfl, rfl, by decide +kernel, rfl, by decide +kernel, by decide +kernel⟩
abbrev FnP (K : PySem.W.Frag) (x : Str) (st : Stmt) (dvs : List V) (fd : FuncData) : Prop := FunD K x x (defArgs st) (defBody st) (defScope st) dvs [] (He.ga K x) fd
abbrev s_PEinit : Stmt := inClass (topS 1) 0
abbrev Ns_PEinit : List Str := ["self", "why"]
abbrev pss_PEinit : List Str := ["self", "why"]
theorem scs_PEinit : FnScope Ns_PEinit pss_PEinit (defScope s_PEinit) := ⟨rfl, rfl, rfl, by decide +kernel, rfl, by decide +kernel, by decide +kernel⟩
abbrev s_BNinit : Stmt := inClass (topS 2) 0
abbrev Ns_BNinit : List Str := ["self", "name"]
abbrev pss_BNinit : List Str := ["self", "name"]
theorem scs_BNinit : FnScope Ns_BNinit pss_BNinit (defScope s_BNinit) := ⟨rfl, rfl, rfl, by decide +kernel, rfl, by decide +kernel, by decide +kernel⟩
/-! ### a hook that looks at the statics too -/
abbrev asY (g : Addr → Option Obj) : List Addr := cStatics :: He.asD g 6
def obsY (fa : List He.Fa) (fn : List He.DefD) (ts : List He.Tab) (tf : List He.Defn) (ex : PySem.W.Frag → Bool) (g : Addr → Option Obj) : He.AlX :=
  (He.obsT fa fn ts (He.frT g (asY g)), ex (He.frT g (asY g)) && He.tabsB g tf (He.frT g (asY g)))
theorem saysY {fa : List He.Fa} {fn : List He.DefD} {ts : List He.Tab} {tf : List He.Defn} {ex : PySem.W.Frag → Bool} {w : World} {h : Heap} (e : obsY fa fn ts tf ex h.get? = He.valX fn ts w) : He.SaysX fa fn ts tf ex w h (He.frT h.get? (asY h.get?)) := by
  have both : (ex (He.frT h.get? (asY h.get?)) && He.tabsB h.get? tf (He.frT h.get? (asY h.get?))) = true := congrArg (fun z : He.AlX => z.2) e
  obtain ⟨hx, ht⟩ := Bool.and_eq_true_iff.mp both
  have one : ∀ p ∈ tf, PySem.W.codeHdIn (He.frT h.get? (asY h.get?)) (He.cT (He.frT h.get? (asY h.get?)) p).1 (He.cT (He.frT h.get? (asY h.get?)) p).2 = true ∧ ∃ o, h.get? (He.cT (He.frT h.get? (asY h.get?)) p).2 = some o ∧ He.emptyTab o = true := by
    intro p hp
    obtain ⟨a1, a2⟩ := Bool.and_eq_true_iff.mp (List.all_eq_true.mp ht p hp)
    refine ⟨a1, ?_⟩
    split at a2
    · rename_i o q
      exact ⟨o, q, a2⟩
    · cases a2
  refine ⟨congrArg (fun z : He.AlX => z.1) e, hx, fun p hp => (one p hp).1, ?_, ?_⟩
  · intro p hp
    obtain ⟨_, o, q, z⟩ := one p hp
    exact He.frT_none (o := o) q z
  · intro p hp
    obtain ⟨_, o, q, z⟩ := one p hp
    exact q.trans (congrArg some (He.emptyTab_eq z))
def hookY (fa : List He.Fa) (fn : List He.DefD) (ts : List He.Tab) (tf : List He.Defn) (ex : PySem.W.Frag → Bool) : PySem.W.Hook :=
  { α := He.AlX, obs := fun s => obsY fa fn ts tf ex s.heap.get?, val := fun w => He.valX fn ts w, says := fun w h => ∃ K : PySem.W.Frag, K.In h ∧ He.SaysX fa fn ts tf ex w h K,
    of := fun _ _ e => ⟨_, He.frT_in, saysY e⟩,
    keeps := fun _ _ _ hk k => hk.elim fun K hc => ⟨K, PySem.W.Frag.In.keeps hc.1 k, ⟨hc.2.t, hc.2.more, hc.2.hd, hc.2.out, fun p hp => k _ _ (hc.2.empty p hp)⟩⟩ }
theorem obsY_eq {fa : List He.Fa} {fn : List He.DefD} {ts : List He.Tab} {tf : List He.Defn} {ex : PySem.W.Frag → Bool} {g : Addr → Option Obj} {s : Shared} (h : ∀ a, g a = s.heap.get? a) : obsY fa fn ts tf ex g = (hookY fa fn ts tf ex).obs s := by
  rw [show g = s.heap.get? from funext h]
  rfl
/-! the class at C is an own exception class over ValueError: field by field, each field by a look of its own -/
def lookCls (o : Obj) : Option ClassData := match o.data with | .cls cd => some cd | _ => none
def lookTail (C : Addr) : List Value → Option (List Value)
  | .ref b :: bm => if b = C then some bm else none
  | _ => none
abbrev Slot5 : Type := Option Value × Option Value × Option Value × Option Value × Option Value
def lookSlots (l : List (Option Value)) : Option Slot5 := match l with
  | [k0, k1, k2, k3, some (.builtin n), k5] => if n = "ValueError.__new__" then some (k0, k1, k2, k3, k5) else none
  | _ => none
theorem lookCls_of {o : Obj} {cd : ClassData} (h : lookCls o = some cd) : o.data = .cls cd := by
  unfold lookCls at h; split at h <;> first | (cases h; assumption) | cases h
theorem lookTail_of {C : Addr} : ∀ {l bm : List Value}, lookTail C l = some bm → l = .ref C :: bm := by
  intro l bm h; unfold lookTail at h; split at h
  · split at h <;> first | (subst_vars; cases h; rfl) | cases h
  · cases h
theorem lookSlots_of {l : List (Option Value)} {k : Slot5} (h : lookSlots l = some k) : l = [k.1, k.2.1, k.2.2.1, k.2.2.2.1, some (.builtin "ValueError.__new__"), k.2.2.2.2] := by
  unfold lookSlots at h; split at h
  · split at h <;> first | (subst_vars; cases h; rfl) | cases h
  · cases h
def oexAt (C : Addr) (o : Obj) : Bool := match lookCls o, lookSlots o.slots.toList with
  | some cd, some _ => (match lookTail C cd.mro with | some bm => PySem.HandSPX.refsVE bm | none => false) && (cd.hasDict && (!cd.hasDel && decide (o.cls = .type "type")))
  | _, _ => false
def oexB (K : PySem.W.Frag) (C : Addr) : Bool := (match K.lookup C with | some o => oexAt C o | none => false) && (decide (PySem.W.findIn K (.ref C) "__setattr__" = some (some (.builtin "object.__setattr__"))) && (decide (PySem.W.subIn K (.ref C) (.type "BaseException") = some true) && (decide (PySem.W.typeIn K (.ref C) = some (.type "type")) && PySem.W.keepIn K (.ref C))))
/-- the parts put together again -/
theorem oexAt_of {C : Addr} {o : Obj} (h : oexAt C o = true) : ∃ nm q N bs bm sn sub ab col dd k0 k1 k2 k3 k5, o = excClassObj nm q C N bs bm true sn sub ab col dd k0 k1 k2 k3 k5 "ValueError.__new__" ∧ PySem.HandSPX.refsVE bm = true := by
  unfold oexAt at h
  cases e1 : lookCls o with
  | none => rw [e1] at h; exact Bool.noConfusion h
  | some cd =>
    cases e2 : lookSlots o.slots.toList with
    | none => rw [e1, e2] at h; exact Bool.noConfusion h
    | some k =>
      rw [e1, e2] at h
      have ⟨tail, h⟩ := Bool.and_eq_true_iff.mp h
      have ⟨hasD, h⟩ := Bool.and_eq_true_iff.mp h
      have ⟨noDel, ty⟩ := Bool.and_eq_true_iff.mp h
      cases e3 : lookTail C cd.mro with
      | none => rw [e3] at tail; exact Bool.noConfusion tail
      | some bm =>
        rw [e3] at tail
        have data := lookCls_of e1
        have slots := lookSlots_of e2
        have mro := lookTail_of e3
        have tyE := of_decide_eq_true ty
        clear ty
        have dele : cd.hasDel = false := (Bool.not_eq_true' _).mp noDel
        clear noDel e1 e2 e3 h
        refine ⟨cd.name, cd.qualname, cd.ns, cd.bases, bm, cd.slotNames, cd.subclasses, cd.abstract, cd.collection, o.dict, k.1, k.2.1, k.2.2.1, k.2.2.2.1, k.2.2.2.2, ?_, tail⟩
        obtain ⟨ocls, odict, odata, ⟨osl⟩⟩ := o
        obtain ⟨nm, bs, mr, nsp, qn, hd, sn, sub, ab, col, del⟩ := cd
        dsimp only at data slots mro tyE dele hasD ⊢
        subst data slots mro tyE dele hasD
        rfl
theorem oexB_ok {K : PySem.W.Frag} {C : Addr} (h : oexB K C = true) : OexC K C := by
  unfold oexB at h
  have ⟨at_, h⟩ := Bool.and_eq_true_iff.mp h
  have ⟨sa, h⟩ := Bool.and_eq_true_iff.mp h
  have ⟨exC, h⟩ := Bool.and_eq_true_iff.mp h
  have ⟨tyC, kC⟩ := Bool.and_eq_true_iff.mp h
  cases look : K.lookup C with
  | none => rw [look] at at_; exact Bool.noConfusion at_
  | some o =>
    rw [look] at at_
    have ⟨nm, q, N, bs, bm, sn, sub, ab, col, dd, k0, k1, k2, k3, k5, e, ve⟩ := oexAt_of at_
    exact ⟨⟨nm, q, N, bs, bm, sn, sub, ab, col, dd, k0, k1, k2, k3, k5, e ▸ look, ve⟩, of_decide_eq_true sa, of_decide_eq_true exC, of_decide_eq_true tyC, kC⟩
/-- what isinstance and the fields of a caught error ask of its class -/
def excB (K : PySem.W.Frag) (C : Addr) : Bool := (PySem.W.clsIn K C).isSome && (xfB K C && (decide (PySem.W.findIn K (.ref C) "__class__" = some (some (.builtin "object.__class__"))) &&
  (decide (PySem.W.specialIn K (.builtin "object.__class__") "__get__" = some (some (.builtin "getset_descriptor.__get__"))) && (decide (PySem.W.takesIn K (.builtin "object.__class__") = some true) && decide (PySem.W.mroIn K C (.type "object") = some true)))))
def veiB (K : PySem.W.Frag) : Bool := match PySem.W.findCls K (.type "ValueError") (.type "type") "__init__" with
  | some (.val (.builtin x)) => decide (x = "ValueError.__init__")
  | _ => false
theorem veiB_ok {K : PySem.W.Frag} (h : veiB K = true) : PySem.W.findCls K (.type "ValueError") (.type "type") "__init__" = some (.val (.builtin "ValueError.__init__")) := by
  unfold veiB at h
  split at h
  · rename_i x e
    rw [e, of_decide_eq_true h]
  · cases h
def cfB (K : PySem.W.Frag) (C f : Addr) : Bool := match PySem.W.findCls K (.ref C) (.type "type") "__init__" with
  | some (.val (.ref x)) => decide (x = f)
  | _ => false
theorem cfB_ok {K : PySem.W.Frag} {C f : Addr} (h : cfB K C f = true) : PySem.W.findCls K (.ref C) (.type "type") "__init__" = some (.val (.ref f)) := by
  unfold cfB at h
  split at h
  · rename_i x e
    rw [e, of_decide_eq_true h]
  · cases h
def exL (K : PySem.W.Frag) : List Bool := [veiB K,
  decide (PySem.W.specialIn K (.ref (He.ga K "PlaneError")) "__getattribute__" = some (some (.builtin "type.__getattribute__"))),
  decide (PySem.W.typeIn K (.ref (He.ga K "PlaneError")) = some (.type "type")),
  PySem.W.readsIn K (He.ga K "PlaneError") (.type "type"),
  cfB K (He.ga K "PlaneError") (He.fAd K ("PlaneError", some "__init__")),
  PySem.W.keepIn K (.ref (He.fAd K ("PlaneError", some "__init__"))),
  oexB K (He.ga K "BadName"),
  excB K (He.ga K "BadName"),
  decide (PySem.W.findIn K (.ref (He.ga K "BadName")) "__init__" = some (some (.ref (He.fAd K ("BadName", some "__init__"))))),
  decide (PySem.W.typeIn K (.ref (He.fAd K ("BadName", some "__init__"))) = some (.type "function")),
  decide (PySem.W.findIn K (.ref (He.ga K "BadName")) "why" = some none),
  decide (PySem.W.findIn K (.ref (He.ga K "BadName")) "name" = some none),
  decide (PySem.W.exmOne K (.ref (He.ga K "BadName")) (.ref (He.ga K "PlaneError")) = some true),
  decide (PySem.W.kitOne K (.ref (He.ga K "BadName")) (.ref (He.ga K "BadField")) = some false),
  decide (PySem.W.kitOne K (.ref (He.ga K "BadName")) (.ref (He.ga K "BadKey")) = some false),
  decide (PySem.W.kitOne K (.ref (He.ga K "BadName")) (.ref (He.ga K "BadKind")) = some false),
  decide (PySem.W.kitOne K (.ref (He.ga K "BadName")) (.ref (He.ga K "BadLabels")) = some false),
  decide (PySem.W.kitOne K (.ref (He.ga K "BadName")) (.ref (He.ga K "BadSelector")) = some false),
  decide (PySem.W.kitOne K (.ref (He.ga K "BadName")) (.ref (He.ga K "BadShape")) = some false),
  decide (PySem.W.kitOne K (.ref (He.ga K "BadName")) (.ref (He.ga K "BadValue")) = some false),
  decide (PySem.W.kitOne K (.ref (He.ga K "BadName")) (.type "ValueError") = some true),
  decide (PySem.W.kitOne K (.ref (He.ga K "BadName")) (.ref (He.ga K "BadName")) = some true),
  He.valsB K (He.ga K "HIGHEST") [("s", .int 99), ("j", .int 99), ("r", .int 999999)]]
def exB (K : PySem.W.Frag) : Bool := (exL K).all id
theorem exAt {K : PySem.W.Frag} (h : exB K = true) (i : Nat) {b : Bool} (e : (exL K)[i]? = some b) : b = true := List.all_eq_true.mp h b (List.mem_of_getElem? e)
structure ExT (K : PySem.W.Frag) : Prop where
  vei : PySem.W.findCls K (.type "ValueError") (.type "type") "__init__" = some (.val (.builtin "ValueError.__init__"))
  bga_PlaneError : PySem.W.specialIn K (.ref (He.ga K "PlaneError")) "__getattribute__" = some (some (.builtin "type.__getattribute__"))
  bty_PlaneError : PySem.W.typeIn K (.ref (He.ga K "PlaneError")) = some (.type "type")
  brd_PlaneError : PySem.W.readsIn K (He.ga K "PlaneError") (.type "type") = true
  bin_PlaneError : PySem.W.findCls K (.ref (He.ga K "PlaneError")) (.type "type") "__init__" = some (.val (.ref (He.fAd K ("PlaneError", some "__init__"))))
  bkp_PlaneError : PySem.W.keepIn K (.ref (He.fAd K ("PlaneError", some "__init__"))) = true
  oex_BadName : OexC K (He.ga K "BadName")
  exc_BadName : excB K (He.ga K "BadName") = true
  ini_BadName : PySem.W.findIn K (.ref (He.ga K "BadName")) "__init__" = some (some (.ref (He.fAd K ("BadName", some "__init__"))))
  tin_BadName : PySem.W.typeIn K (.ref (He.fAd K ("BadName", some "__init__"))) = some (.type "function")
  no_BadName_why : PySem.W.findIn K (.ref (He.ga K "BadName")) "why" = some none
  no_BadName_name : PySem.W.findIn K (.ref (He.ga K "BadName")) "name" = some none
  exm_BadName_PlaneError : PySem.W.exmOne K (.ref (He.ga K "BadName")) (.ref (He.ga K "PlaneError")) = some true
  isi_BadName_BadField : PySem.W.kitOne K (.ref (He.ga K "BadName")) (.ref (He.ga K "BadField")) = some false
  isi_BadName_BadKey : PySem.W.kitOne K (.ref (He.ga K "BadName")) (.ref (He.ga K "BadKey")) = some false
  isi_BadName_BadKind : PySem.W.kitOne K (.ref (He.ga K "BadName")) (.ref (He.ga K "BadKind")) = some false
  isi_BadName_BadLabels : PySem.W.kitOne K (.ref (He.ga K "BadName")) (.ref (He.ga K "BadLabels")) = some false
  isi_BadName_BadSelector : PySem.W.kitOne K (.ref (He.ga K "BadName")) (.ref (He.ga K "BadSelector")) = some false
  isi_BadName_BadShape : PySem.W.kitOne K (.ref (He.ga K "BadName")) (.ref (He.ga K "BadShape")) = some false
  isi_BadName_BadValue : PySem.W.kitOne K (.ref (He.ga K "BadName")) (.ref (He.ga K "BadValue")) = some false
  isi_BadName_ValueError : PySem.W.kitOne K (.ref (He.ga K "BadName")) (.type "ValueError") = some true
  isi_BadName_BadName : PySem.W.kitOne K (.ref (He.ga K "BadName")) (.ref (He.ga K "BadName")) = some true
  val_HIGHEST : He.valsB K (He.ga K "HIGHEST") [("s", .int 99), ("j", .int 99), ("r", .int 999999)] = true
theorem exT {K : PySem.W.Frag} (h : exB K = true) : ExT K := ⟨veiB_ok (exAt h 0 rfl),
  of_decide_eq_true (exAt h 1 rfl),
  of_decide_eq_true (exAt h 2 rfl),
  id (exAt h 3 rfl),
  cfB_ok (exAt h 4 rfl),
  id (exAt h 5 rfl),
  oexB_ok (exAt h 6 rfl),
  id (exAt h 7 rfl),
  of_decide_eq_true (exAt h 8 rfl),
  of_decide_eq_true (exAt h 9 rfl),
  of_decide_eq_true (exAt h 10 rfl),
  of_decide_eq_true (exAt h 11 rfl),
  of_decide_eq_true (exAt h 12 rfl),
  of_decide_eq_true (exAt h 13 rfl),
  of_decide_eq_true (exAt h 14 rfl),
  of_decide_eq_true (exAt h 15 rfl),
  of_decide_eq_true (exAt h 16 rfl),
  of_decide_eq_true (exAt h 17 rfl),
  of_decide_eq_true (exAt h 18 rfl),
  of_decide_eq_true (exAt h 19 rfl),
  of_decide_eq_true (exAt h 20 rfl),
  of_decide_eq_true (exAt h 21 rfl),
  id (exAt h 22 rfl)⟩
/-! ### the law makes lambdas -/
abbrev cLm (K : PySem.W.Frag) : Addr := He.codeOf K ("law", none)
abbrev pLm (K : PySem.W.Frag) : Addr := He.tabOf K (cLm K)
abbrev TbB (K : PySem.W.Frag) (mg : Str → Option Value) (base : Heap) : Prop := LamX.TabB base mg (cLm K) (pLm K)
abbrev TLs (K : PySem.W.Frag) : List (Addr × Str) := [(pLm K, "law" ++ ".<locals>." ++ "<lambda>")]
theorem ga_fAd (K : PySem.W.Frag) (x : Str) : He.ga K x = He.fAd K (x, none) := rfl
structure Txt (K : PySem.W.Frag) (mg : Str → Option Value) (w : World) : Prop where
  g_is_integer : mg "is_integer" = some (.ref (He.ga K "is_integer"))
  d_is_integer : ∃ fd, FnP K "is_integer" s_is_integer [] fd
  g_is_user_name : mg "is_user_name" = some (.ref (He.ga K "is_user_name"))
  d_is_user_name : ∃ fd, FnP K "is_user_name" s_is_user_name [] fd
  g_number_of : mg "number_of" = some (.ref (He.ga K "number_of"))
  d_number_of : ∃ fd, FnP K "number_of" s_number_of [] fd
  g_part_of : mg "part_of" = some (.ref (He.ga K "part_of"))
  d_part_of : ∃ fd, FnP K "part_of" s_part_of [] fd
  g_apart : mg "apart" = some (.ref (He.ga K "apart"))
  d_apart : ∃ fd, FnP K "apart" s_apart [] fd
  g_is_maker : mg "is_maker" = some (.ref (He.ga K "is_maker"))
  d_is_maker : ∃ fd, FnP K "is_maker" s_is_maker [] fd
  g_is_name : mg "is_name" = some (.ref (He.ga K "is_name"))
  d_is_name : ∃ fd, FnP K "is_name" s_is_name [] fd
  g_made_name : mg "made_name" = some (.ref (He.ga K "made_name"))
  d_made_name : ∃ fd, FnP K "made_name" s_made_name [] fd
  g_taken_apart : mg "taken_apart" = some (.ref (He.ga K "taken_apart"))
  d_taken_apart : ∃ fd, FnP K "taken_apart" s_taken_apart [] fd
  g__law_cell_at : mg "_law_cell_at" = some (.ref (He.ga K "_law_cell_at"))
  d__law_cell_at : ∃ fd, FnP K "_law_cell_at" s__law_cell_at [] fd
  g__law_source : mg "_law_source" = some (.ref (He.ga K "_law_source"))
  d__law_source : ∃ fd, FnP K "_law_source" s__law_source [] fd
  g__law_draw : mg "_law_draw" = some (.ref (He.ga K "_law_draw"))
  d__law_draw : ∃ fd, FnP K "_law_draw" s__law_draw [] fd
  g__law_pick : mg "_law_pick" = some (.ref (He.ga K "_law_pick"))
  d__law_pick : ∃ fd, FnP K "_law_pick" s__law_pick [] fd
  g__law_user_name : mg "_law_user_name" = some (.ref (He.ga K "_law_user_name"))
  d__law_user_name : ∃ fd, FnP K "_law_user_name" s__law_user_name [] fd
  g__law_is_user : mg "_law_is_user" = some (.ref (He.ga K "_law_is_user"))
  d__law_is_user : ∃ fd, FnP K "_law_is_user" s__law_is_user [] fd
  g__law_number : mg "_law_number" = some (.ref (He.ga K "_law_number"))
  d__law_number : ∃ fd, FnP K "_law_number" s__law_number [] fd
  g__law_apart : mg "_law_apart" = some (.ref (He.ga K "_law_apart"))
  d__law_apart : ∃ fd, FnP K "_law_apart" s__law_apart [] fd
  g__law_refused : mg "_law_refused" = some (.ref (He.ga K "_law_refused"))
  d__law_refused : ∃ fd, FnP K "_law_refused" s__law_refused [] fd
  g_law : mg "law" = some (.ref (He.ga K "law"))
  d_law : ∃ fd, FnP K "law" s_law [] fd
  g_PlaneError : mg "PlaneError" = some (.ref (He.ga K "PlaneError"))
  g_BadName : mg "BadName" = some (.ref (He.ga K "BadName"))
  g_BadKey : mg "BadKey" = some (.ref (He.ga K "BadKey"))
  g_BadValue : mg "BadValue" = some (.ref (He.ga K "BadValue"))
  g_BadSelector : mg "BadSelector" = some (.ref (He.ga K "BadSelector"))
  g_BadLabels : mg "BadLabels" = some (.ref (He.ga K "BadLabels"))
  g_BadKind : mg "BadKind" = some (.ref (He.ga K "BadKind"))
  g_BadField : mg "BadField" = some (.ref (He.ga K "BadField"))
  g_BadShape : mg "BadShape" = some (.ref (He.ga K "BadShape"))
  n_len : mg "len" = none
  n_int : mg "int" = none
  n_bool : mg "bool" = none
  n_str : mg "str" = none
  n_range : mg "range" = none
  n_isinstance : mg "isinstance" = none
  n_all : mg "all" = none
  n_repr : mg "repr" = none
  n_ValueError : mg "ValueError" = none
  c_SMALL : ∃ t, mg "SMALL" = some (.str "abcdefghijklmnopqrstuvwxyz" t)
  c_DIGITS : ∃ t, mg "DIGITS" = some (.str "0123456789" t)
  c_MOST_SIGNS : ∃ t, mg "MOST_SIGNS" = some (.int 10 t)
  c_MOST_MADE : ∃ t, mg "MOST_MADE" = some (.int 22 t)
  g_HIGHEST : mg "HIGHEST" = some (.ref (He.ga K "HIGHEST"))
  d_PlaneError___init__ : ∃ fd, FunD K "__init__" "PlaneError.__init__" (defArgs s_PEinit) (defBody s_PEinit) (defScope s_PEinit) [.str "invalid"] [] (He.fAd K ("PlaneError", some "__init__")) fd
  d_BadName___init__ : ∃ fd, FunD K "__init__" "BadName.__init__" (defArgs s_BNinit) (defBody s_BNinit) (defScope s_BNinit) [] [] (He.fAd K ("BadName", some "__init__")) fd
  ex : exB K = true
  kd_HIGHEST : ∃ es n, KDict K w (He.ga K "HIGHEST") es n
theorem bi_is_integer {K : PySem.W.Frag} {fd : FuncData} (F : FnP K "is_integer" s_is_integer [] fd) : Binds K fd ps_is_integer [] := F.bindsN (fun _ _ _ _ _ _ us hl => match us, hl with | [_], _ => rfl)
theorem bi_is_user_name {K : PySem.W.Frag} {fd : FuncData} (F : FnP K "is_user_name" s_is_user_name [] fd) : Binds K fd ps_is_user_name [] := F.bindsN (fun _ _ _ _ _ _ us hl => match us, hl with | [_], _ => rfl)
theorem bi_number_of {K : PySem.W.Frag} {fd : FuncData} (F : FnP K "number_of" s_number_of [] fd) : Binds K fd ps_number_of [] := F.bindsN (fun _ _ _ _ _ _ us hl => match us, hl with | [_, _], _ => rfl)
theorem bi_part_of {K : PySem.W.Frag} {fd : FuncData} (F : FnP K "part_of" s_part_of [] fd) : Binds K fd ps_part_of [] := F.bindsN (fun _ _ _ _ _ _ us hl => match us, hl with | [_, _], _ => rfl)
theorem bi_apart {K : PySem.W.Frag} {fd : FuncData} (F : FnP K "apart" s_apart [] fd) : Binds K fd ps_apart [] := F.bindsN (fun _ _ _ _ _ _ us hl => match us, hl with | [_], _ => rfl)
theorem bi_is_maker {K : PySem.W.Frag} {fd : FuncData} (F : FnP K "is_maker" s_is_maker [] fd) : Binds K fd ps_is_maker [] := F.bindsN (fun _ _ _ _ _ _ us hl => match us, hl with | [_, _], _ => rfl)
theorem bi_is_name {K : PySem.W.Frag} {fd : FuncData} (F : FnP K "is_name" s_is_name [] fd) : Binds K fd ps_is_name [] := F.bindsN (fun _ _ _ _ _ _ us hl => match us, hl with | [_], _ => rfl)
theorem bi_made_name {K : PySem.W.Frag} {fd : FuncData} (F : FnP K "made_name" s_made_name [] fd) : Binds K fd ps_made_name [] := F.bindsN (fun _ _ _ _ _ _ us hl => match us, hl with | [_, _, _], _ => rfl)
theorem bi_taken_apart {K : PySem.W.Frag} {fd : FuncData} (F : FnP K "taken_apart" s_taken_apart [] fd) : Binds K fd ps_taken_apart [] := F.bindsN (fun _ _ _ _ _ _ us hl => match us, hl with | [_], _ => rfl)
theorem bi__law_cell_at {K : PySem.W.Frag} {fd : FuncData} (F : FnP K "_law_cell_at" s__law_cell_at [] fd) : Binds K fd ps__law_cell_at [] := F.bindsN (fun _ _ _ _ _ _ us hl => match us, hl with | [_, _], _ => rfl)
theorem bi__law_source {K : PySem.W.Frag} {fd : FuncData} (F : FnP K "_law_source" s__law_source [] fd) : Binds K fd ps__law_source [] := F.bindsN (fun _ _ _ _ _ _ us hl => match us, hl with | [_], _ => rfl)
theorem bi__law_draw {K : PySem.W.Frag} {fd : FuncData} (F : FnP K "_law_draw" s__law_draw [] fd) : Binds K fd ps__law_draw [] := F.bindsN (fun _ _ _ _ _ _ us hl => match us, hl with | [_, _], _ => rfl)
theorem bi__law_pick {K : PySem.W.Frag} {fd : FuncData} (F : FnP K "_law_pick" s__law_pick [] fd) : Binds K fd ps__law_pick [] := F.bindsN (fun _ _ _ _ _ _ us hl => match us, hl with | [_, _], _ => rfl)
theorem bi__law_user_name {K : PySem.W.Frag} {fd : FuncData} (F : FnP K "_law_user_name" s__law_user_name [] fd) : Binds K fd ps__law_user_name [] := F.bindsN (fun _ _ _ _ _ _ us hl => match us, hl with | [_], _ => rfl)
theorem bi__law_is_user {K : PySem.W.Frag} {fd : FuncData} (F : FnP K "_law_is_user" s__law_is_user [] fd) : Binds K fd ps__law_is_user [] := F.bindsN (fun _ _ _ _ _ _ us hl => match us, hl with | [_], _ => rfl)
theorem bi__law_number {K : PySem.W.Frag} {fd : FuncData} (F : FnP K "_law_number" s__law_number [] fd) : Binds K fd ps__law_number [] := F.bindsN (fun _ _ _ _ _ _ us hl => match us, hl with | [_, _], _ => rfl)
theorem bi__law_apart {K : PySem.W.Frag} {fd : FuncData} (F : FnP K "_law_apart" s__law_apart [] fd) : Binds K fd ps__law_apart [] := F.bindsN (fun _ _ _ _ _ _ us hl => match us, hl with | [_], _ => rfl)
theorem bi__law_refused {K : PySem.W.Frag} {fd : FuncData} (F : FnP K "_law_refused" s__law_refused [] fd) : Binds K fd ps__law_refused [] := F.bindsN (fun _ _ _ _ _ _ us hl => match us, hl with | [_], _ => rfl)
theorem bi_law {K : PySem.W.Frag} {fd : FuncData} (F : FnP K "law" s_law [] fd) : Binds K fd ps_law [] := F.bindsN (fun _ _ _ _ _ _ us hl => match us, hl with | [_], _ => rfl)

/-! ### the heap: what a def with a source of draws leaves -/
/-- all that was tracked, but what stands at a, is as it was -/
def Keep (a : Addr) (H H' : Hp) : Prop := ∀ b o, b ≠ a → H b = some o → H' b = some o
theorem Keep.refl (a : Addr) (H : Hp) : Keep a H H := fun _ _ _ h => h
theorem Keep.trans {a : Addr} {H H1 H2 : Hp} (x : Keep a H H1) (y : Keep a H1 H2) : Keep a H H2 := fun b o n h => y b o n (x b o n h)
theorem Keep.of {a : Addr} {H H1 : Hp} (x : Same H H1) : Keep a H H1 := fun b o _ h => x b o h
theorem Keep.at_ {a : Addr} {H : Hp} {u : HO} : Keep a H (upd H a u) := fun b o n h => by rw [upd_ne n]; exact h
theorem Same.new {H : Hp} {p : Addr} {u : HO} (n : H p = none) : Same H (upd H p u) := fun b o h => by rw [upd_ne (ne_of_none h n)]; exact h
theorem Keep.new {a : Addr} {H : Hp} {p : Addr} {u : HO} (n : H p = none) : Keep a H (upd H p u) := Keep.of (Same.new n)
theorem Keep.seqL {K : PySem.W.Frag} {a b : Addr} {H H1 : Hp} {xs : List V} (x : Keep a H H1) (n : b ≠ a) (h : SqL K H b xs) : SqL K H1 b xs := by
  rcases h with (h | ⟨o, h⟩) | h
  · exact .inl (.inl (x _ _ n h))
  · exact .inl (.inr ⟨o, x _ _ n h⟩)
  · exact .inr h
theorem Keep.seqT {K : PySem.W.Frag} {a b : Addr} {H H1 : Hp} {xs : List V} (x : Keep a H H1) (n : b ≠ a) (h : SqT K H b xs) : SqT K H1 b xs := by
  rcases h with (h | ⟨o, h⟩) | h
  · exact .inl (.inl (x _ _ n h))
  · exact .inl (.inr ⟨o, x _ _ n h⟩)
  · exact .inr h
/-- a flat value: None, a bool, an int, a text -/
def flat : V → Prop
  | .non => True
  | .bl _ => True
  | .int _ => True
  | .str _ => True
  | _ => False
def tyNm : V → Value
  | .non => .type "NoneType"
  | .bl _ => .type "bool"
  | .int _ => .type "int"
  | _ => .type "str"
theorem flat_ty {K : PySem.W.Frag} {H : Hp} {x : V} (h : flat x) : TyX K H x (tyNm x) := by
  cases x with
  | non => exact .base .non
  | bl b => exact .base (.bl b)
  | int i => exact .base (.int i)
  | str z => exact .base (.str z)
  | byt _ => exact h.elim
  | flt _ => exact h.elim
  | ref _ => exact h.elim
  | ty _ => exact h.elim
theorem small3 : (3 : Nat) ≤ sizeLine := by rw [sizeLine_eq]; decide
theorem smallN {n : Nat} (h : n ≤ 1000) : n ≤ sizeLine := Nat.le_of_lt (small1000 h)
theorem yes_ {σ : L2.St} {H : Hp} {Q : Bool → Hp → Prop} (h : Q true H) : tYes σ H Q := h
theorem get_take {α : Type} {xs : List α} {i : Nat} {x : α} (h : xs[i]? = some x) : xs.take (i + 1) = xs.take i ++ [x] := by
  rw [List.take_succ, h]; rfl
theorem mem_at {α : Type} {xs : List α} {i : Nat} {x : α} (h : xs[i]? = some x) : x ∈ xs := List.mem_of_getElem? h
theorem lt_at {α : Type} {xs : List α} {i : Nat} {x : α} (h : xs[i]? = some x) : i < xs.length := (List.getElem?_eq_some_iff.mp h).1
/-! ### flat values as data -/
def dOf : V → PyData
  | .bl b => .bool b
  | .int i => .int i
  | .str z => .str z
  | _ => .none
theorem dp_flat {K : PySem.W.Frag} {H : Hp} {x : V} (h : flat x) : Dp K H x (dOf x) := by
  cases x with
  | non => exact .non
  | bl b => exact .bl b
  | int i => exact .int i
  | str z => exact .str z
  | byt _ => exact h.elim
  | flt _ => exact h.elim
  | ref _ => exact h.elim
  | ty _ => exact h.elim
theorem dps_flat {K : PySem.W.Frag} {H : Hp} : ∀ {xs : List V}, (∀ x ∈ xs, flat x) → DpAll K H xs (xs.map dOf)
  | [], _ => .nil
  | x :: xs, h => .cons (dp_flat (h x (List.mem_cons_self ..))) (dps_flat fun y hy => h y (List.mem_cons_of_mem _ hy))
/-- a text of signs that there are -/
def okS : V → Prop
  | .str z => PyData.strOk z = true
  | _ => True
theorem lay_flat {x : V} (h : okS x) : (dOf x).canLay0 = true := by
  cases x with
  | str z => exact (show PyData.canLay0 (.str z) = true by simpa [PyData.canLay0, okS] using h)
  | _ => simp [dOf, PyData.canLay0]
theorem lays_flat : ∀ {xs : List V}, (∀ x ∈ xs, okS x) → PyData.canLayAll0 (xs.map dOf) = true
  | [], _ => by simp [PyData.canLayAll0]
  | x :: xs, h => by simp [PyData.canLayAll0, lay_flat (h x (List.mem_cons_self ..)), lays_flat (xs := xs) fun y hy => h y (List.mem_cons_of_mem _ hy)]
theorem dep_flat (x : V) : (dOf x).depth = 0 := by cases x <;> simp [dOf, PyData.depth]
theorem deps_flat : ∀ xs : List V, PyData.depthAll (xs.map dOf) = 0
  | [] => by simp [PyData.depthAll]
  | x :: xs => by simp [PyData.depthAll, dep_flat x, deps_flat xs]
theorem sh_flat {x : V} (h : okS x) : SeqAt.shaped (dOf x) = true := by simp [SeqAt.shaped, lay_flat h, dep_flat x]
theorem sh_list {xs : List V} (h : ∀ x ∈ xs, okS x) : SeqAt.shaped (.list (xs.map dOf)) = true := by simp [SeqAt.shaped, PyData.canLay0, PyData.depth, lays_flat h, deps_flat xs]
theorem sh_tup {xs : List V} (h : ∀ x ∈ xs, okS x) : SeqAt.shaped (.tuple (xs.map dOf)) = true := by simp [SeqAt.shaped, PyData.canLay0, PyData.depth, lays_flat h, deps_flat xs]
theorem eqv_nil (xs : List V) : PyData.eqv (.list (xs.map dOf)) (.list []) = xs.isEmpty := by
  cases xs <;> simp [PyData.eqv, PyData.eqvAll]
/-- len of a list or a tuple, within a comprehension -/
def rLenK (K : PySem.W.Frag) : List V → Hp → VK → Prop := fun xs H Q => ∃ p ys, xs = [V.ref p] ∧ (SqL K H p ys ∨ SqT K H p ys) ∧ Q (V.int ys.length) H
/-- dict(pairs), within a comprehension -/
def rDictP (K : PySem.W.Frag) : List V → Hp → VK → Prop := fun xs H Q => ∃ (a : Addr) (ps : List Addr) (kvs : List (Key × V)), xs = [.ref a] ∧ SqL K H a (ps.map V.ref) ∧ Paired (fun p kv => SqT K H p [kV kv.1, kv.2]) ps kvs ∧
  ∀ p, H p = none → Q (.ref p) (upd H p (.dK (mergeK [] kvs)))
theorem lay_same {H H' : Hp} {l : Addr} {u : HO} (e : upd H l u = H') (h : H l = none) : Same H H' := e ▸ Same.new h
theorem lay_at {H H' : Hp} {l : Addr} {u : HO} (e : upd H l u = H') : H' l = some u := e ▸ upd_same

/-! ### the source of draws: [digits, a number, a count] -/
def WellO (u : HO) (n : Nat) : Prop := ∃ x y : Int, u = .lst [.int x, .int y, .int (n : Int)] ∧ 0 ≤ y ∧ y < 2147483647
def WellAt (H : Hp) (a : Addr) (n : Nat) : Prop := ∃ u, H a = some u ∧ WellO u n
def sp__law_cell_at (K : PySem.W.Frag) : Sp := fun vs H Q _ => ∃ (a : Addr) (ns : List Int), vs = [.ref a, .int 0] ∧ SqL K H a (ns.map V.int) ∧ ∀ i : Int, Q (.int i) H
theorem ok__law_cell_at {P : Program} {w : World} {K : PySem.W.Frag} {mg : Str → Option Value} {base : Heap} {fd : FuncData} (T : Txt K mg w) (F : FnP K "_law_cell_at" s__law_cell_at [] fd) : FnOk P w K mg base CX0 1 (He.ga K "_law_cell_at") fd ps__law_cell_at (sp__law_cell_at K) := by
  refine F.ok sc__law_cell_at (fun vs H Q E h => ?len) (fun cdv A outer s H vs Q E hr h => ?body)
  case len => obtain ⟨a, ns, rfl, hS, k⟩ := h; rfl
  case body =>
  obtain ⟨a, ns, rfl, hS, k⟩ := h
  have hu := hu_of hr
  refine ⟨_, PSs.nox (pss_cons (ps_if (pt_cmpR op_lt (pv 1) (pe_callB call_len_seq (by rfl) T.n_len (by decide +kernel) (pa_cons (pv 0) pa_nil)) (nomark _)) (pss_one (ps_ret (pe_ix ix_list (pv 0) (pv 1) (fun _ _ => rfl)))) pss_nil)
    (pss_one (ps_ret pe_int))), ?_⟩
  refine ⟨_, rfl, _, rfl, a, _, rfl, .inl hS, _, _, rfl, rfl, _, rfl, ?_⟩
  refine ite2 (fun hlt => ?_) (fun _ => k 0)
  cases ns with
  | nil => simp at hlt
  | cons i r => exact ⟨_, rfl, _, rfl, a, _, 0, .int i, rfl, rfl, hS, atI_nat (j := 0) rfl, k i⟩
def sp__law_source (K : PySem.W.Frag) : Sp := fun vs H Q _ => ∃ (i : Int), vs = [.int i] ∧ ∀ (a : Addr) (u : HO), H a = none → WellO u 0 → Q (.ref a) (upd H a u)
theorem mod_lt' (z : Int) {m : Int} (h : 0 < m) : 0 ≤ z % m ∧ z % m < m := ⟨Int.emod_nonneg _ (by omega), Int.emod_lt_of_pos _ h⟩
theorem ok__law_source {P : Program} {w : World} {K : PySem.W.Frag} {mg : Str → Option Value} {base : Heap} {fd : FuncData} (T : Txt K mg w) (F : FnP K "_law_source" s__law_source [] fd) : FnOk P w K mg base CX0 1 (He.ga K "_law_source") fd ps__law_source (sp__law_source K) := by
  refine F.ok sc__law_source (fun vs H Q E h => ?len) (fun cdv A outer s H vs Q E hr h => ?body)
  case len => obtain ⟨i, rfl, k⟩ := h; rfl
  case body =>
  obtain ⟨i, rfl, k⟩ := h
  have hu := hu_of hr
  refine ⟨_, PSs.nox (pss_one (ps_ret (pe_lst (pa_cons (pe_op op_mul (pv 0) (pe_callTy call_int1 (by rfl) T.n_int (by decide +kernel) (pa_cons (pe_cmpR op_ge (pv 0) (pe_op op_pow pe_int pe_int) (nomark _)) pa_nil))) (pa_cons (pe_op op_mod (pe_callTy call_int1 (by rfl) T.n_int (by decide +kernel) (pa_cons (pv 0) pa_nil)) pe_int) (pa_cons pe_int pa_nil)))))), ?_⟩
  refine ⟨_, rfl, _, rfl, _, _, rfl, rfl, ⟨by decide, by decide, by decide⟩, _, _, rfl, rfl, .inr ⟨_, rfl, _, _, rfl, rfl, .inr ?_, _, rfl, .inl ⟨_, rfl, _, _, rfl, rfl, (by show (0 : Int) < 2147483647; decide), smallN (by show 3 ≤ 1000; decide), fun p hp => k p _ hp ⟨_, _, rfl, mod_lt' i (by decide)⟩⟩⟩⟩
  split <;> constructor <;> decide
/-- a number from 0 to m - 1; the source goes on -/
def sp__law_draw (K : PySem.W.Frag) : Sp := fun vs H Q _ => ∃ (a : Addr) (n : Nat) (m : Int), vs = [.ref a, .int m] ∧ WellAt H a n ∧ n < 1000000 ∧ 0 < m ∧ m ≤ 1000000000 ∧
  ∀ (r : Int) (u : HO) (n' : Nat), 0 ≤ r → r < m → n' ≤ n + 1 → WellO u n' → Q (.int r) (upd H a u)
theorem natAbs_lt64 {z : Int} (h1 : -(2 ^ 40) < z) (h2 : z < 2 ^ 40) : z.natAbs < 2 ^ 64 := by omega
theorem wdiv {i j : Int} (h : 0 < j) (h2 : j ≤ 2 ^ 32) : CDivW i j := wide_div (b := 40) h (by omega) (by decide) (by decide)
theorem ok__law_draw {P : Program} {w : World} {K : PySem.W.Frag} {mg : Str → Option Value} {base : Heap} {fd : FuncData} (T : Txt K mg w) (F : FnP K "_law_draw" s__law_draw [] fd) : FnOk P w K mg base CX0 1 (He.ga K "_law_draw") fd ps__law_draw (sp__law_draw K) := by
  refine F.ok sc__law_draw (fun vs H Q E h => ?len) (fun cdv A outer s H vs Q E hr h => ?body)
  case len => obtain ⟨a, n, m, rfl, ⟨u, hu0, x, y, rfl, y0, y1⟩, hn, hm, hm2, k⟩ := h; rfl
  case body =>
  obtain ⟨a, n, m, rfl, ⟨u, hu0, x, y, rfl, y0, y1⟩, hn, hm, hm2, k⟩ := h
  have hu := hu_of hr
  refine ⟨_, PSs.nox (pss_cons (ps_if (pt_cmpR op_gt (pe_ix ix_list (pv 0) pe_int (fun _ _ => rfl)) pe_int (nomark _)) (pss_cons (ps_set (i := 2) sc__law_draw.nd rfl (Or.inl rfl) (pe_op op_mod (pe_callTy call_int1 (by rfl) T.n_int (by decide +kernel) (pa_cons (pe_ix ix_list (pv 0) pe_int (fun _ _ => rfl)) pa_nil)) (pv 1)))
      (pss_cons (ps_asg (pe_op op_fdivW (pe_ix ix_list (pv 0) pe_int (fun _ _ => rfl)) (pv 1)) (pg_sub (pv 0) pe_int set_list))
      (pss_one (ps_ret (pv 2))))) pss_nil)
    (pss_cons (ps_asg (pe_op op_add (pe_ix ix_list (pv 0) pe_int (fun _ _ => rfl)) pe_int) (pg_sub (pv 0) pe_int set_list))
    (pss_cons (ps_set (i := 3) sc__law_draw.nd rfl (Or.inl rfl) (pe_op op_mod (pe_callTy call_int1 (by rfl) T.n_int (by decide +kernel) (pa_cons (pe_op op_pow (pe_op op_add (pe_op op_add (pe_ix ix_list (pv 0) pe_int (fun _ _ => rfl)) (pe_op op_mul pe_int (pe_ix ix_list (pv 0) pe_int (fun _ _ => rfl)))) pe_int) pe_int) pa_nil)) pe_int))
    (pss_cons (ps_set (i := 3) sc__law_draw.nd rfl (Or.inl rfl) (pe_op op_mod (pe_callTy call_int1 (by rfl) T.n_int (by decide +kernel) (pa_cons (pe_op op_mul (pv 3) (pe_op op_add (pe_op op_add (pe_op op_fdivW (pv 3) pe_int) pe_int) (pe_ix ix_list (pv 0) pe_int (fun _ _ => rfl)))) pa_nil)) pe_int))
    (pss_one (ps_ret (pe_op op_mod (pe_callTy call_int1 (by rfl) T.n_int (by decide +kernel) (pa_cons (pe_op op_fdivW (pe_op op_mod (pe_callTy call_int1 (by rfl) T.n_int (by decide +kernel) (pa_cons (pe_op op_mul (pv 3) (pe_op op_add (pe_op op_fdivW (pv 3) pe_int) pe_int)) pa_nil)) pe_int) pe_int) pa_nil)) (pv 1)))))))), ?_⟩
  have hS : SqL K H a [.int x, .int y, .int (n : Int)] := SqL.of hu0
  refine ⟨_, rfl, a, _, 0, _, rfl, rfl, hS, rfl, _, _, rfl, rfl, _, rfl, ?_⟩
  refine ite2 (fun hx => ?_) (fun hx => ?_)
  · refine ⟨_, rfl, a, _, 0, _, rfl, rfl, hS, rfl, .inl ⟨_, rfl, _, rfl, _, _, rfl, rfl, hm, ?_⟩⟩
    refine ⟨_, rfl, a, _, 0, _, rfl, rfl, hS, rfl, _, rfl, _, _, rfl, rfl, wdiv hm (by omega), _, rfl, a, _, _, 0, rfl, rfl, hu0, rfl, _, rfl, ?_⟩
    exact k _ _ n (mod_lt' x hm).1 (mod_lt' x hm).2 (Nat.le_succ _) ⟨_, _, rfl, y0, y1⟩
  · refine ⟨_, rfl, a, _, 2, _, rfl, rfl, hS, rfl, _, _, rfl, rfl, _, rfl, a, _, _, 2, rfl, rfl, hu0, rfl, ?_⟩
    have hu1 : upd H a (.lst ([.int x, .int y, .int (n : Int)].set 2 (.int ((n : Int) + 1)))) a = some (.lst [.int x, .int y, .int ((n : Int) + 1)]) := upd_same
    have hS1 : SqL K (upd H a (.lst ([.int x, .int y, .int (n : Int)].set 2 (.int ((n : Int) + 1))))) a [.int x, .int y, .int ((n : Int) + 1)] := SqL.of hu1
    refine ⟨_, rfl, a, _, 1, _, rfl, rfl, hS1, rfl, _, rfl, a, _, 2, _, rfl, rfl, hS1, rfl, _, _, rfl, rfl, .inl ⟨by decide, by decide⟩, _, _, rfl, rfl, _, _, rfl, rfl, _, _, rfl, rfl, ⟨by decide, by decide, natAbs_lt64 (by omega) (by omega)⟩, .inl ⟨_, rfl, _, _, rfl, rfl, (by show (0 : Int) < 2147483629; decide), ?_⟩⟩
    have b3 := mod_lt' ((y + 7919 * ((n : Int) + 1) + 1) ^ (5 : Int).toNat) (m := 2147483629) (by decide)
    generalize (y + 7919 * ((n : Int) + 1) + 1) ^ (5 : Int).toNat % 2147483629 = e3 at b3 ⊢
    refine ⟨_, rfl, _, rfl, _, _, rfl, rfl, wdiv (by decide) (by decide), _, _, rfl, rfl, _, rfl, a, _, 2, _, rfl, rfl, hS1, rfl, _, _, rfl, rfl, _, _, rfl, rfl, .inl ⟨by omega, by omega⟩, .inl ⟨_, rfl, _, _, rfl, rfl, (by show (0 : Int) < 2147483587; decide), ?_⟩⟩
    have b4 := mod_lt' (e3 * (e3 / 1009 + 69621 + ((n : Int) + 1))) (m := 2147483587) (by decide)
    generalize e3 * (e3 / 1009 + 69621 + ((n : Int) + 1)) % 2147483587 = e4 at b4 ⊢
    refine ⟨_, rfl, _, rfl, _, _, rfl, rfl, wdiv (by decide) (by decide), _, _, rfl, rfl, _, _, rfl, rfl, .inl ⟨by omega, by omega⟩, .inl ⟨_, rfl, _, _, rfl, rfl, (by show (0 : Int) < 2147483579; decide), _, _, rfl, rfl, wdiv (by decide) (by decide), .inl ⟨_, rfl, _, rfl, _, _, rfl, rfl, hm, ?_⟩⟩⟩
    exact k _ _ (n + 1) (mod_lt' _ hm).1 (mod_lt' _ hm).2 (Nat.le_refl _) ⟨_, _, rfl, y0, y1⟩

/-! ### one of some values, or of the signs of a text -/
theorem well_ne {H : Hp} {a b : Addr} {n : Nat} {o : HO} (h : WellAt H a n) (hb : H b = some o) (ho : ∀ xs, o = .lst xs → xs.length ≠ 3) : b ≠ a := by
  obtain ⟨u, hu, x, y, rfl, _⟩ := h
  exact ne_of hb hu fun z => ho _ z rfl
theorem well_ne3 {H : Hp} {a p : Addr} {n : Nat} (h : WellAt H a n) (hp : H p = none) : p ≠ a := by
  obtain ⟨u, hu, _⟩ := h
  exact fun z => by rw [z, hu] at hp; cases hp
theorem well_upd {H : Hp} {a : Addr} {n : Nat} {u : HO} (h : WellO u n) : WellAt (upd H a u) a n := ⟨u, upd_same, h⟩
theorem well_new {H : Hp} {a p : Addr} {n : Nat} {u : HO} (h : WellAt H a n) (hp : H p = none) : WellAt (upd H p u) a n := by
  obtain ⟨v, hv, w⟩ := h
  exact ⟨v, by rw [upd_ne (ne_of_none hv hp)]; exact hv, w⟩
def sp__law_pick (K : PySem.W.Frag) : Sp := fun vs H Q _ => ∃ (a : Addr) (n : Nat) (y : V), vs = [.ref a, y] ∧ WellAt H a n ∧ n < 1000000 ∧
  ((∃ (b : Addr) (ys : List V), y = .ref b ∧ H b = some (.lst ys) ∧ b ≠ a ∧ 0 < ys.length ∧ ys.length ≤ 1000 ∧ ∀ (y : V) (u : HO) (n' : Nat), y ∈ ys → n' ≤ n + 1 → WellO u n' → Q y (upd H a u)) ∨
  (∃ (z : Str), y = .str z ∧ 0 < z.length ∧ z.length ≤ 1000 ∧ ∀ (c : Nat) (u : HO) (n' : Nat), c ∈ z.cps.toList → n' ≤ n + 1 → WellO u n' → Q (.str ⟨#[c]⟩) (upd H a u)))
theorem ok__law_pick {P : Program} {w : World} {K : PySem.W.Frag} {mg : Str → Option Value} {base : Heap} {fd : FuncData} (T : Txt K mg w) (F : FnP K "_law_pick" s__law_pick [] fd) : FnOk P w K mg base CX0 2 (He.ga K "_law_pick") fd ps__law_pick (sp__law_pick K) := by
  obtain ⟨fd__law_draw, F__law_draw⟩ := T.d__law_draw
  have G__law_draw := ok__law_draw (P := P) (w := w) (base := base) T F__law_draw
  have k__law_draw := F__law_draw.kp
  have b__law_draw := bi__law_draw F__law_draw
  refine F.ok sc__law_pick (fun vs H Q E h => ?len) (fun cdv A outer s H vs Q E hr h => ?body)
  case len => obtain ⟨a, n, y, rfl, hw, hn, hk⟩ := h; rfl
  case body =>
  obtain ⟨a, n, y, rfl, hw, hn, hk⟩ := h
  have hu := hu_of hr
  refine ⟨_, PSs.nox (pss_one (ps_ret (pe_ix (ix_list.or ix_str) (pv 1) (pe_call G__law_draw (hr.mono (by first | decide | omega)) rfl T.g__law_draw k__law_draw b__law_draw .nil pass0 (pa_cons (pv 0) (pa_cons (pe_callB (call_len_seq.or call_len_str) (by rfl) T.n_len (by decide +kernel) (pa_cons (pv 1) pa_nil)) pa_nil))) (fun _ _ => rfl)))), ?_⟩
  rcases hk with ⟨b, ys, rfl, hb, hne, h0, h1, k⟩ | ⟨z, rfl, h0, h1, k⟩
  · refine ⟨_, rfl, _, rfl, _, rfl, .inl ⟨b, ys, rfl, .inl (SqL.of hb), a, n, _, rfl, hw, hn, (by omega), (by omega), fun r u n' r0 r1 hn' hu' => ?_⟩⟩
    have hb' : upd H a u b = some (.lst ys) := by rw [upd_ne hne]; exact hb
    obtain ⟨j, rfl⟩ := Int.eq_ofNat_of_zero_le r0
    have hj : j < ys.length := by omega
    have e : ys[j]? = some ys[j] := List.getElem?_eq_getElem hj
    exact .inl ⟨b, ys, _, ys[j], rfl, rfl, SqL.of hb', atI_nat e, k _ u n' (List.getElem_mem hj) hn' hu'⟩
  · have hz : z.length ≤ sizeLine := Nat.le_of_lt (small1000 h1)
    refine ⟨_, rfl, _, rfl, _, rfl, .inr ⟨z, rfl, hz, a, n, _, rfl, hw, hn, (by omega), (by omega), fun r u n' r0 r1 hn' hu' => ?_⟩⟩
    obtain ⟨j, rfl⟩ := Int.eq_ofNat_of_zero_le r0
    have hl : z.cps.toList.length = z.length := by rw [Array.length_toList]; rfl
    have hj : j < z.cps.toList.length := by omega
    have e : z.cps.toList[j]? = some z.cps.toList[j] := List.getElem?_eq_getElem hj
    exact .inr ⟨z, _, _, rfl, rfl, hz, atI_nat e, k _ u n' (List.getElem_mem hj) hn' hu'⟩

/-! ### defs that ask repr: they run where no repr is under way -/
structure FnG (P : Program) (w : World) (K : PySem.W.Frag) (mg : Str → Option Value) (base : Heap) (CX : CXT) (k : Nat) (f : Addr) (fd : FuncData) (ps : List Str) (sp : Sp) : Prop where
  len : ∀ vs H Q E, sp vs H Q E → vs.length = ps.length
  run : ∀ (A : Around) (outer : List Env) (s : Shared) (H : Hp) (args : Args) (us : List Value) (vs : List V) (Q : VK) (E : XK), Room k A → A.guards = some [] →
    Env0 P w K mg base A outer s H → BindsTo s fd args (ps.zip us) → Vals vs us → sp vs H Q E →
      codeAny (model P w) A (.call (.ref f) args) (CR CX outer P w H s Q E) s
section
variable {P : Program} {w : World} {K : PySem.W.Frag} {mg : Str → Option Value} {base : Heap} {CX : CXT} {k : Nat} {f : Addr} {fd : FuncData} {ps : List Str} {sp : Sp}
/-- more room does no harm -/
theorem FnG.mono {j : Nat} (F : FnG P w K mg base CX j f fd ps sp) (le : j ≤ k) : FnG P w K mg base CX k f fd ps sp where
  len := F.len
  run A outer s H args us vs Q E room := F.run A outer s H args us vs Q E (room.mono le)
/-- a def's body walked there: the body is asked at the def's own code value, whatever is known of it (Z) -/
theorem okAt {x qual : Str} {params : Arguments} {body : List Stmt} {scope : Scope} {dvs : List V} {kws : List (Str × V)} {N : List Str} {Z : Value → Prop} (F : FunD K x qual params body scope dvs kws f fd) (S : FnScope N ps scope)
    (known : ∀ {cdv : Value} {oc dV kV doc pm ct : Value} {an od : Option Addr} {osl : Array (Option Value)}, K.lookup f = some ⟨oc, od, .func (PySem.W.fnOf x qual params body scope dV kV doc pm an cdv ct), osl⟩ → PySem.W.codeIn K cdv qual = true → Z cdv)
    (len : ∀ vs H Q E, sp vs H Q E → vs.length = ps.length)
    (walk : ∀ (cdv : Value), Z cdv → ∀ (A : Around) (outer : List Env) (s : Shared) (H : Hp) (vs : List V) (Q : VK) (E : XK), Room k (A.deeper (envOfC qual scope s.heap.objs.size f cdv)) → A.guards = some [] → sp vs H Q E →
      ∃ t, PSs (cxOf CX P w K mg base N qual scope f cdv A outer s H E) body t ∧ t { nx := fun _ H' => Q .non H', rt := Q } (L2.start N vs) H) : FnG P w K mg base CX (k + 1) f fd ps sp := by
  obtain ⟨_, _, _, _, _, _, _, cdv, _, _, rfl, there, code, _⟩ := F.ex
  exact { len := len, run := fun A outer s H args us vs Q E room quiet env bind_ vals want => LamX.run_ofS there code S room env bind_ vals (len _ _ _ _ want) fun room1 => walk cdv (known there code) A outer s H vs Q E room1 quiet want }
theorem okG {x qual : Str} {params : Arguments} {body : List Stmt} {scope : Scope} {dvs : List V} {kws : List (Str × V)} {N : List Str} (F : FunD K x qual params body scope dvs kws f fd) (S : FnScope N ps scope) (len : ∀ vs H Q E, sp vs H Q E → vs.length = ps.length)
    (walk : ∀ (cdv : Value) (A : Around) (outer : List Env) (s : Shared) (H : Hp) (vs : List V) (Q : VK) (E : XK), Room k (A.deeper (envOfC qual scope s.heap.objs.size f cdv)) → A.guards = some [] → sp vs H Q E →
      ∃ t, PSs (cxOf CX P w K mg base N qual scope f cdv A outer s H E) body t ∧ t { nx := fun _ H' => Q .non H', rt := Q } (L2.start N vs) H) : FnG P w K mg base CX (k + 1) f fd ps sp :=
  okAt (Z := fun _ => True) F S (fun _ _ => trivial) len fun cdv _ => walk cdv
end
/-- what a run of it leaves is what its caller's reading asks -/
theorem FnG.told {X : Cx} {CX : CXT} {k : Nat} {f : Addr} {fd : FuncData} {ps : List Str} {sp : Sp} {dvs : List V} {ds us : List Value} {vs : List V} {E : XK} {pins : List (Addr × Obj)} {σ : L2.St} {H : Hp} {s : Shared} {Q : VK} (F : FnG X.prog X.w X.K X.mg X.base CX k f fd ps sp) (room : Room k X.A) (quiet : X.A.guards = some [])
    (bind_ : L2.Binds X.K fd ps ds) (dflt : Vals dvs ds) (pass : Passes CX X E) (I : Inv X pins σ H s) (vals : Vals vs us) (want : sp (vs ++ dvs) H Q E) : wpAny (model X.prog X.w) X.A (call (.ref f) us) (EP X pins σ Q) X.xe s :=
  have all := vals.append dflt
  wpAny_call <| codeAny_mono (F.run X.A X.stack s H ⟨us, []⟩ _ _ Q E room quiet I.env0 (bind_ s us I.kIn (all.length ▸ F.len _ _ _ _ want)) all want) fun r s' done => match r, done with
    | .error er, done => pass pins σ H s er s' I done
    | .ok (.ret u), done => I.after done
/-- its call -/
theorem pe_callG {X : Cx} {CX : CXT} {k : Nat} {f : Addr} {fd : FuncData} {ps : List Str} {sp : Sp} {dvs : List V} {ds : List Value} {E : XK} {x : Str} {p pos : Pos} {e : Expr} {es : List Expr} {t : TA}
    (F : FnG X.prog X.w X.K X.mg X.base CX k f fd ps sp) (hr : Room k X.A) (hG : X.A.guards = some []) (hg : Gl X x) (hm : X.mg x = some (.ref f)) (hk : PySem.W.keepIn X.K (.ref f) = true) (hb : L2.Binds X.K fd ps ds) (hd : Vals dvs ds)
    (hx : Passes CX X E) (ha : PA X (e :: es) t) (hdb : (x == ("__debug__" : Str)) = false := by decide) (he : starEach (e :: es) X.env = (false, eval e X.env) :: starEach es X.env := by rfl)
    (hpl : (backTo pos (starEach es X.env)).any (·.1) = false := by rfl) : PE X (.Call (.Name x p) (e :: es) [] pos) (tCall sp dvs E t) :=
  ⟨fun pins s σ H Q I want => wpAny_Call_Name_kw <| ld_glob I hg hm (PySem.W.callWith_K (h₀ := X.base) I.ok.mod.kin hk (thn (ha.run pos pins s σ H _ I want) fun us s1 ⟨vs, H1, I1, vals, want1⟩ => ⟨I1.kIn, F.told hr hG hb hd hx I1 vals want1⟩) he hpl) hdb⟩
/-! ### what repr shows: v is the data d, in every state that H tells -/
def Shw (K : PySem.W.Frag) (H : Hp) (v : V) (d : PyData) : Prop := ∀ (X : Cx) (pins : List (Addr × Obj)) (σ : L2.St) (s : Shared) (u : Value), X.K = K → Inv X pins σ H s → RelV v u → ∃ as, Reads s.heap u d as ∧ sysModules ∉ as
theorem shw_flat {K : PySem.W.Frag} {H : Hp} {v : V} (h : flat v) : Shw K H v (dOf v) := fun X pins σ s u _ I r => by
  cases v with
  | non => cases r; exact ⟨_, .none, by simp⟩
  | bl b => cases r; exact ⟨_, .bool b, by simp⟩
  | int i => obtain ⟨t, rfl⟩ := r; exact ⟨_, .int i t, by simp⟩
  | str z => obtain ⟨t, rfl⟩ := r; exact ⟨_, .str z t, by simp⟩
  | byt _ => exact h.elim
  | flt _ => exact h.elim
  | ref _ => exact h.elim
  | ty _ => exact h.elim
theorem shw_all {K : PySem.W.Frag} {H : Hp} {X : Cx} {pins : List (Addr × Obj)} {σ : L2.St} {s : Shared} (e : X.K = K) (I : Inv X pins σ H s) : ∀ {xs : List V} {ds : List PyData} {us : List Value}, Paired (Shw K H) xs ds → Vals xs us → ∃ as, ReadsAll s.heap us ds as ∧ sysModules ∉ as
  | _, _, _, .nil, .nil => ⟨_, .nil, by simp⟩
  | _, _, _, .cons h t, .cons r q => by
    obtain ⟨as, h1, h2⟩ := h X pins σ s _ e I r
    obtain ⟨bs, h3, h4⟩ := shw_all e I t q
    exact ⟨_, .cons h1 h3, by simp [h2, h4]⟩
theorem shw_tup {K : PySem.W.Frag} {H : Hp} {a : Addr} {xs : List V} {ds : List PyData} (h : SqT K H a xs) (hs : Paired (Shw K H) xs ds) : Shw K H (.ref a) (.tuple ds) := fun X pins σ s u e I r => by
  cases r
  subst e
  obtain ⟨its, rv, ⟨o, ho, hc, n, hd⟩, _⟩ := I.tuple h
  obtain ⟨as, h1, h2⟩ := shw_all rfl I hs rv
  exact ⟨_, .tuple ho hc hd h1, h2⟩
theorem shw_lst {K : PySem.W.Frag} {H : Hp} {a : Addr} {xs : List V} {ds : List PyData} (h : SqL K H a xs) (n1 : a ≠ sysModules) (hs : Paired (Shw K H) xs ds) : Shw K H (.ref a) (.list ds) := fun X pins σ s u e I r => by
  cases r
  subst e
  obtain ⟨its, rv, ⟨o, n, ho, hc, _, hd⟩, _⟩ := I.list h
  obtain ⟨as, h1, h2⟩ := shw_all rfl I hs rv
  exact ⟨_, .list ho hc hd h1, by simp [h2, Ne.symm n1]⟩
/-- the data of a key -/
def kD : Key → PyData
  | .inl i => .int i
  | .inr x => .str x
theorem pairs_read {P : Program} {w : World} {h : Heap} : ∀ {es : List DictEntry} {kvs : List (Key × Value)}, Pairs (mixKind P w) es kvs → ReadsAll h (es.map (·.key)) (kvs.map fun p => kD p.1) []
  | _, _, .nil => .nil
  | _, _, .cons (e := e) (kv := kv) hk _ t => by
    have q := pairs_read (h := h) t
    have hk' : keyIs kv.1 e.key = true := hk
    have r : Reads h e.key (kD kv.1) [] := by
      rcases keyIs_shape hk' with ⟨i, t, e1, e2⟩ | ⟨x, t, e1, e2⟩
      · rw [e1, e2]; exact .int i t
      · rw [e1, e2]; exact .str x t
    exact .cons r q
theorem pairs_vals {P : Program} {w : World} : ∀ {es : List DictEntry} {kvs : List (Key × Value)}, Pairs (mixKind P w) es kvs → es.map (·.val) = kvs.map (·.2)
  | _, _, .nil => rfl
  | _, _, .cons _ hv t => by rw [List.map_cons, List.map_cons, hv, pairs_vals t]
theorem kv_split : ∀ {kvs : List (Key × V)} {vs : List (Key × Value)}, KV kvs vs → kvs.map (·.1) = vs.map (·.1) ∧ Vals (kvs.map (·.2)) (vs.map (·.2))
  | _, _, .nil => ⟨rfl, .nil⟩
  | _, _, .cons h t => by
    obtain ⟨h1, h2⟩ := kv_split t
    exact ⟨by rw [List.map_cons, List.map_cons, h.1, h1], .cons h.2 h2⟩
theorem shw_dic {K : PySem.W.Frag} {H : Hp} {a : Addr} {kvs : List (Key × V)} {ps : List (PyData × PyData)} (h : H a = some (.dK kvs)) (h1 : ps.map (·.1) = kvs.map fun p => kD p.1) (hs : Paired (Shw K H) (kvs.map (·.2)) (ps.map (·.2))) : Shw K H (.ref a) (.dict ps) := fun X pins σ s u e I r => by
  cases r
  subst e
  obtain ⟨_, n1, vs, kv, o, es, ep, ho, hx, hd, _, pr, _⟩ := I.hok a _ h
  obtain ⟨k1, k2⟩ := kv_split kv
  have q1 := pairs_read (h := s.heap) pr
  have q2 := pairs_vals pr
  obtain ⟨as, r1, r2⟩ := shw_all rfl I hs k2
  have e1 : (vs.map fun p => kD p.1) = ps.map (·.1) := by
    rw [h1]
    have : (vs.map (·.1)).map kD = (kvs.map (·.1)).map kD := by rw [k1]
    rw [List.map_map, List.map_map] at this; exact this
  rw [e1] at q1
  rw [← q2] at r1
  refine ⟨_, .dict ho hx.1 hd q1 r1, ?_⟩
  have n1' : a ≠ sysModules := by simpa using n1
  simp [r2, Ne.symm n1']
/-- repr(v) -/
def rRepr (K : PySem.W.Frag) : List V → Hp → VK → Prop := fun xs H Q => ∃ (v : V) (d : PyData), xs = [v] ∧ Shw K H v d ∧ d.showable = true ∧ d.depth ≤ 60 ∧ d.shown.length ≤ sizeLine ∧ Q (.str d.shown) H
theorem call_repr {X : Cx} (hG : X.A.guards = some []) (hu : X.A.units + 64 < cLine) : CallR X (.builtin "repr") (rRepr X.K) := by
  intro pins s σ H xs us Q I r h
  obtain ⟨v, d, rfl, hs, h1, h2, h3, q⟩ := h
  obtain ⟨u, rfl, ru⟩ := vals1 r
  obtain ⟨as, hr, hn⟩ := hs X pins σ s u rfl I ru
  cases hr with
  | none => exact PySem.P.repr_of_none ⟨.str _, H, I.tok _, ⟨_, rfl⟩, q⟩
  | bool b => exact PySem.P.repr_of_bool ⟨.str _, H, I.tok _, ⟨_, rfl⟩, q⟩
  | int i t => exact PySem.P.repr_of_int (of_decide_eq_true h1) ⟨.str _, H, I.tok _, ⟨_, rfl⟩, q⟩
  | str x t => exact PySem.P.repr_of_str ⟨.str _, H, I.tok _, ⟨_, rfl⟩, q⟩ h3
  | list a b c e => exact repr_of_reads' (.list a b c e) h1 (fun _ => hn) hG (by omega) (fun _ _ z => z) (fun h' u tk k => ⟨.str _, H, I.kept (t' := tk) k, ⟨_, rfl⟩, q⟩) h3
  | tuple a b c e => exact repr_of_reads' (.tuple a b c e) h1 (fun _ => hn) hG (by omega) (fun _ _ z => z) (fun h' u tk k => ⟨.str _, H, I.kept (t' := tk) k, ⟨_, rfl⟩, q⟩) h3
  | dict a b c e f => exact repr_of_reads' (.dict a b c e f) h1 (fun _ => hn) hG (by omega) (fun _ _ z => z) (fun h' u tk k => ⟨.str _, H, I.kept (t' := tk) k, ⟨_, rfl⟩, q⟩) h3

/-! ### the law is called where no repr is under way: one end, with tables of lambdas (cs) or without -/
open Classical in
/-- what is told of the heap when the law starts: each table is empty, the script is a list of nums that nobody writes (where it is no written thing) -/
noncomputable def startHp (K : PySem.W.Frag) (cs : List (Addr × Addr)) (a : Addr) (vs : List Value) (ns : List Int) : Hp := fun b =>
  if b ∈ cs.map (·.2) then some (.tbl #[]) else if b = a ∧ K.lookup a = none then some (.frz { cls := .type "list", data := .seq vs.toArray } (.lst (ns.map V.int))) else none
section
variable {P : Program} {w : World} {K : PySem.W.Frag} {h : Heap} {cs : List (Addr × Addr)} {a : Addr} {vs : List Value} {ns : List Int}
abbrev scriptO (vs : List Value) : Obj := { cls := .type "list", data := .seq vs.toArray }
abbrev tableO : Obj := { cls := .none, data := .fields #[] }
theorem start_table {b : Addr} (tb : b ∈ cs.map (·.2)) : startHp K cs a vs ns b = some (.tbl #[]) := if_pos tb
theorem start_script (no : a ∉ cs.map (·.2)) (free : K.lookup a = none) : startHp K cs a vs ns a = some (.frz (scriptO vs) (.lst (ns.map V.int))) := (if_neg no).trans (if_pos ⟨rfl, free⟩)
/-- the two ways in which something is told of a place -/
theorem start_told {b : Addr} {u : HO} (told : startHp K cs a vs ns b = some u) : (b ∈ cs.map (·.2) ∧ u = .tbl #[]) ∨ ((b = a ∧ K.lookup a = none) ∧ u = .frz (scriptO vs) (.lst (ns.map V.int))) := by
  unfold startHp at told
  by_cases tb : b ∈ cs.map (·.2)
  · exact .inl ⟨tb, (Option.some.inj ((if_pos tb).symm.trans told)).symm⟩
  · rw [if_neg tb] at told
    by_cases sc : b = a ∧ K.lookup a = none
    · exact .inr ⟨sc, (Option.some.inj ((if_pos sc).symm.trans told)).symm⟩
    · rw [if_neg sc] at told; exact nomatch told
variable (tabs : ∀ b ∈ cs.map (·.2), h.get? b = some tableO) (script : h.get? a = some (scriptO vs))
include tabs script
theorem start_apart : a ∉ cs.map (·.2) := fun tb => nomatch script.symm.trans (tabs a tb)
/-- nothing is told of a place with an object of another shape -/
theorem start_other {b : Addr} {o : Obj} (there : h.get? b = some o) (n1 : o ≠ tableO) (n2 : o ≠ scriptO vs) : startHp K cs a vs ns b = none := by
  match e : startHp K cs a vs ns b with
  | none => rfl
  | some u =>
    rcases start_told e with ⟨tb, _⟩ | ⟨⟨rfl, _⟩, _⟩
    · exact absurd (Option.some.inj (there.symm.trans (tabs b tb))) n1
    · exact absurd (Option.some.inj (there.symm.trans script)) n2
theorem start_ok (nums : IntsAre vs ns) (few : ns.length ≤ sizeLine) : HOk P w (startHp K cs a vs ns) h := fun b u told => by
  rcases start_told told with ⟨tb, rfl⟩ | ⟨⟨rfl, _⟩, rfl⟩
  · exact tabs b tb
  · exact ⟨script, (List.length_map (f := V.int) (as := ns)).symm ▸ few, vs, _, vals_ints nums, script⟩
theorem start_seq (kin : K.In h) (nums : IntsAre vs ns) (few : ns.length ≤ sizeLine) : SqL K (startHp K cs a vs ns) a (ns.map V.int) := by
  match e : K.lookup a with
  | none => exact .inl (.inr ⟨_, start_script (start_apart tabs script) e⟩)
  | some o =>
    have same : o = scriptO vs := Option.some.inj ((kin a o e).symm.trans script)
    subst same
    exact .inr ⟨_, vs.toArray, _, e, rfl, rfl, rfl, by rw [List.size_toArray, nums.length]; exact few, by simpa using vals_ints nums⟩
/-- the rest of the heap, with what is told hidden -/
theorem start_ns {b : Addr} {m : Str → Option Value} (n : h.Ns b m) : (hidT h (startHp K cs a vs ns)).Ns b m :=
  have ⟨o, es, ep, there, dict, r⟩ := n
  ⟨o, es, ep, hidT_get there (start_other tabs script there (fun e => by rw [e] at dict; exact nomatch dict) (fun e => by rw [e] at dict; exact nomatch dict)), dict, r⟩
theorem start_in (kin : K.In h) (out : ∀ b ∈ cs.map (·.2), K.lookup b = none) : K.In (hidT h (startHp K cs a vs ns)) := fun b o look => by
  match e : startHp K cs a vs ns b with
  | none => exact hidT_get (kin b o look) e
  | some u =>
    rcases start_told e with ⟨tb, _⟩ | ⟨⟨rfl, free⟩, _⟩
    · exact nomatch look.symm.trans (out b tb)
    · exact nomatch look.symm.trans free
end
section
variable {P : Program} {w : World} {K : PySem.W.Frag} {mg mb : Str → Option Value} {h : Heap} {cs : List (Addr × Addr)} {a : Addr} {vs : List Value} {ns : List Int}
/-- the module of the builtins, as the head leaves it -/
abbrev BMain (mg : Str → Option Value) (h : Heap) : Prop := ∃ (bm : Addr) (ob : Obj), mg "__builtins__" = some (.ref bm) ∧ bm ≠ builtinsNs ∧ h.get? bm = some ob ∧ ob.cls = .type "module" ∧ ob.dict = some builtinsNs ∧ ob.data = .plain
/-- a place with a dict's payload, a place with a plain one and a table are three places -/
theorem ns_apart {b c : Addr} {m : Str → Option Value} {o : Obj} (n : h.Ns b m) (there : h.get? c = some o) (no : ∀ es ep, o.data ≠ .dict es ep) : b ≠ c := fun e => by
  have ⟨o', es, ep, at_, dict, _⟩ := n
  exact no _ _ (Option.some.inj ((e ▸ at_).symm.trans there) ▸ dict)
theorem start_tab (tabs : ∀ b ∈ cs.map (·.2), h.get? b = some tableO) (script : h.get? a = some (scriptO vs)) (glob : h.Ns mainGlobals mg) (bmain : BMain mg h) {p : Addr × Addr} (hp : p ∈ cs) (code : PySem.W.CodeHd h p.1 p.2) : LamX.TabB (hidT h (startHp K cs a vs ns)) mg p.1 p.2 := by
  have tp := tabs p.2 (List.mem_map_of_mem hp)
  have ⟨bm, ob, b1, b2, b3, b4, b5, b6⟩ := bmain
  refine ⟨?_, ⟨bm, ob, b1, b2, ?_, ?_, hidT_get b3 (start_other tabs script b3 (fun e => ?_) fun e => ?_), b4, b5, b6⟩, ns_apart glob tp fun _ _ z => nomatch z⟩
  · have ⟨o, us, file, tf, flags, tg, inF, text, tt, there, cls, rest⟩ := code
    exact ⟨o, us, file, tf, flags, tg, inF, text, tt, hidT_get there (start_other tabs script there (fun e => by rw [e] at cls; exact nomatch cls) fun e => by rw [e] at cls; exact absurd cls (show ¬ Value.type "list" = Value.type "code" by decide)), cls, rest⟩
  · exact (ns_apart glob b3 fun _ _ z => nomatch b6.symm.trans z).symm
  · intro e
    rw [e, tp] at b3
    cases b3
    cases b6
  · rw [e] at b6; exact nomatch b6
  · rw [e] at b6; exact nomatch b6
end
section
variable {P : Program} {w : World} {K : PySem.W.Frag} {mg mb : Str → Option Value} {CX : CXT} {k : Nat} {fa a : Addr} {cs : List (Addr × Addr)} {fd : FuncData} {x : Str} {sp : Sp} {s₁ : Shared} {vs : List Value} {ns : List Int}
/-- what the run leaves: a table may have grown, all else that was there is as it was -/
theorem left_old {H2 : Hp} {h' : Heap} (tabs : ∀ b ∈ cs.map (·.2), s₁.heap.get? b = some tableO) (script : s₁.heap.get? a = some (scriptO vs)) (code : ∀ p ∈ cs, PySem.W.CodeHd s₁.heap p.1 p.2)
    (un : Un [] [] (startHp K cs a vs ns) H2 s₁.heap h') (ok2 : HOk P w H2 h') : OldK s₁.heap h' := by
  have grown : ∀ b ∈ cs.map (·.2), ∃ more : Array Value, h'.get? b = some { cls := .none, data := .fields (#[] ++ more) } := fun b tb =>
    have ⟨more, told⟩ := un.tbls b #[] (start_table tb)
    ⟨more, ok2 b _ told⟩
  have same : ∀ b o, b ∉ cs.map (·.2) → s₁.heap.get? b = some o → h'.get? b = some o := fun b o no there => by
    match e : startHp K cs a vs ns b with
    | none => exact un.keep b o there e (fun z => nomatch z) (fun z => nomatch z)
    | some u =>
      rcases start_told e with ⟨tb, _⟩ | ⟨⟨rfl, _⟩, rfl⟩
      · exact absurd tb no
      · exact (ok2 b _ (un.frzs b _ _ e)).1.trans (script.symm.trans there)
  refine ⟨fun b o there => ?_, fun b o there => ?_⟩ <;> by_cases tb : b ∈ cs.map (·.2)
  · have ⟨more, now⟩ := grown b tb
    have ⟨p, hp, ep⟩ := List.mem_map.mp tb
    subst ep
    cases there.symm.trans (tabs _ tb)
    exact .inr (.inl ⟨((code p hp).tab (tabs _ tb)).isCodeTable, rfl, #[], more, rfl, now⟩)
  · exact .inl (same b o tb there)
  · have ⟨_, now⟩ := grown b tb; exact ⟨_, now⟩
  · exact ⟨o, same b o tb there⟩
/-- the call of the law: True, and nothing old is another but for tables that have grown -/
theorem law_end (kin : K.In s₁.heap) (glob : s₁.heap.Ns mainGlobals mg) (blt : s₁.heap.Ns builtinsNs mb) (boot : ∀ x : Str, x ≠ "__name__" → mb x = bootBuiltins x) (lim : s₁.heap.NoLimit) (gens : s₁.gens = #[]) (bmain : BMain mg s₁.heap)
    (tabs : ∀ b ∈ cs.map (·.2), s₁.heap.get? b = some tableO) (out : ∀ b ∈ cs.map (·.2), K.lookup b = none) (code : ∀ p ∈ cs, PySem.W.CodeHd s₁.heap p.1 p.2) (script : s₁.heap.get? a = some (scriptO vs)) (nums : IntsAre vs ns) (few : ns.length ≤ sizeLine) (room : Room k callerA)
    (F : ∀ base : Heap, K.In base → base.Ns mainGlobals mg → (∀ p ∈ cs, LamX.TabB base mg p.1 p.2) → FnG P w K mg base CX k fa fd [x] sp) (bind_ : ∀ (s : Shared) (u : Value), BindsTo s fd ⟨[u], []⟩ [(x, u)])
    (spec : ∀ H : Hp, (∀ b ∈ cs.map (·.2), H b = some (.tbl #[])) → SqL K H a (ns.map V.int) → sp [.ref a] H (fun v _ => v = .bl true) fun _ _ _ => False) (never : ∀ H e s', CX [] H s₁ (fun _ _ _ => False) e s' → False) :
    codeAny (model P w) callerA (.call (.ref fa) ⟨[.ref a], []⟩) (fun r s' => r = .ok (.ret (.bool true)) ∧ OldK s₁.heap s'.heap ∧ s'.os = s₁.os ∧ AllBare s'.gens) s₁ := by
  have ok := start_ok (P := P) (w := w) (K := K) tabs script nums few
  have kin' := start_in (ns := ns) tabs script kin out
  have glob' := start_ns (K := K) (ns := ns) tabs script glob
  have lim' : (hidT s₁.heap (startHp K cs a vs ns)).NoLimit := have ⟨mc, n, no⟩ := lim; ⟨mc, start_ns tabs script n, no⟩
  have env : Env0 P w K mg (hidT s₁.heap (startHp K cs a vs ns)) callerA [] s₁ (startHp K cs a vs ns) :=
    ⟨rfl, ⟨kin', glob', ⟨mb, start_ns tabs script blt, boot⟩, lim'⟩, fun _ _ => of_hidT, Nat.le_of_eq (hidT_size ..), trivial, (fun _ z => nomatch z), ok, .of_eq gens⟩
  have run_ := (F _ kin' glob' fun p hp => start_tab tabs script glob bmain hp (code p hp)).run callerA [] s₁ _ ⟨[.ref a], []⟩ [.ref a] [.ref a] _ _ room rfl env (bind_ s₁ (.ref a)) (.cons rfl .nil) (spec _ (fun _ => start_table) (start_seq tabs script kin nums few))
  refine codeAny_mono run_ fun r s2 done => ?_
  match r, done with
  | .error er, done => exact (never _ er s2 done).elim
  | .ok (.ret u), ⟨v, H2, os2, bare2, un, ok2, rel, ev⟩ =>
    cases (show v = .bl true from ev)
    cases (show u = Value.bool true from rel)
    exact ⟨rfl, left_old tabs script code un ok2, os2, bare2⟩
/-- the end of a law that asks repr and makes lambdas -/
theorem walk_ofTG {l : PySem.W.OpenLaw} {n : Nat} {q : Program} {loose : List Str} {XP : (Str → Option Value) → Heap → Prop} {YP : World → Heap → Prop} {d : DefRec} {CX : World → CXT}
    (hn : l.most = some n) (hn2 : n ≤ sizeLine) (hdf : d.params.defaults = []) (room : Room k callerA)
    (F : ∀ (w : World) (mg : Str → Option Value) (fa : Addr) (h : Heap), YP w h → h.Ns mainGlobals mg → mg d.name = some (.ref fa) →
      ∃ (K : PySem.W.Frag), K.In h ∧ ∃ (fd : FuncData) (cs : List (Addr × Addr)) (sp : Sp), (∀ p ∈ cs, h.get? p.2 = some tableO) ∧ (∀ p ∈ cs, K.lookup p.2 = none) ∧ (∀ p ∈ cs, PySem.W.CodeHd h p.1 p.2) ∧ (∀ (s : Shared) (u : Value), BindsTo s fd ⟨[u], []⟩ [(x, u)]) ∧
        (∀ (H : Hp) (a : Addr) (ns : List Int), ns.length ≤ n → (∀ z ∈ ns, Builtin.Int.intBits z ≤ 1048576) → (∀ p ∈ cs, H p.2 = some (.tbl #[])) → SqL K H a (ns.map V.int) → sp [.ref a] H (fun v _ => v = .bl true) fun _ _ _ => False) ∧
        ∀ base : Heap, K.In base → base.Ns mainGlobals mg → (∀ p ∈ cs, LamX.TabB base mg p.1 p.2) → FnG l.prog w K mg base (CX w) k fa fd [x] sp)
    (never : ∀ (w : World) (H : Hp) (s : Shared) (e : Value) (s' : Shared), CX w [] H s (fun _ _ _ => False) e s' → False) : PySem.W.WalkO q loose XP YP l.row.toRowW d [] (fun f vs => PySem.call f vs) :=
  have at2 : ∀ {Z : Addr → Prop} {cs : List (Addr × Addr)}, (∀ p ∈ cs, Z p.2) → ∀ b ∈ cs.map (·.2), Z b := fun all b tb => have ⟨p, hp, e⟩ := List.mem_map.mp tb; e ▸ all p hp
  Att.attach_callB hn hdf fun w s₀ s₁ mg mb fa o pm cd doc a vs ns G Y _ _ _ name script nums len bits gens =>
    have ⟨_, kin, _, _, _, tabs, out, code, bind_, spec, fn⟩ := F w mg fa _ Y G.T.g name
    law_end kin G.T.g G.T.b G.T.builtins G.T.nolimit gens G.T.bmain (at2 tabs) (at2 out) code script nums (Nat.le_trans len hn2) room fn bind_ (fun H told sq => spec H a ns len bits (fun p hp => told _ (List.mem_map_of_mem hp)) sq) fun H e s' => never w H s₁ e s'
/-- .. and of one that makes none -/
theorem walk_ofG {l : PySem.W.OpenLaw} {n : Nat} {q : Program} {loose : List Str} {XP : (Str → Option Value) → Heap → Prop} {YP : World → Heap → Prop} {d : DefRec} {CX : CXT}
    (hn : l.most = some n) (hn2 : n ≤ sizeLine) (hdf : d.params.defaults = []) (room : Room k callerA)
    (F : ∀ (w : World) (mg : Str → Option Value) (fa : Addr) (h : Heap), YP w h → h.Ns mainGlobals mg → mg d.name = some (.ref fa) → ∃ (K : PySem.W.Frag) (fd : FuncData) (sp : Sp), K.In h ∧ (∀ (s : Shared) (u : Value), BindsTo s fd ⟨[u], []⟩ [(x, u)]) ∧
      (∀ (H : Hp) (a : Addr) (ns : List Int), ns.length ≤ n → SqL K H a (ns.map V.int) → sp [.ref a] H (fun v _ => v = .bl true) fun _ _ _ => False) ∧ ∀ base : Heap, K.In base → base.Ns mainGlobals mg → FnG l.prog w K mg base CX k fa fd [x] sp)
    (never : ∀ (H : Hp) (s : Shared) (e : Value) (s' : Shared), CX [] H s (fun _ _ _ => False) e s' → False) : PySem.W.WalkO q loose XP YP l.row.toRowW d [] (fun f vs => PySem.call f vs) :=
  walk_ofTG (CX := fun _ => CX) hn hn2 hdf room (fun w mg fa h Y glob name => have ⟨K, fd, sp, kin, bind_, spec, fn⟩ := F w mg fa h Y glob name
    ⟨K, kin, fd, [], sp, (fun _ z => nomatch z), (fun _ z => nomatch z), (fun _ z => nomatch z), bind_, fun H a ns len _ _ sq => spec H a ns len sq, fun base kb nb _ => fn base kb nb⟩) fun _ => never
end

/-! ### own exception classes whose __init__ calls the base's -/
section
variable {X : Cx} {CX : CXT} {k : Nat} {C f : Addr} {fd : FuncData} {ps : List Str} {sp : Sp} {dvs : List V} {ds : List Value} {E : XK} {cn m : Str} {p1 p2 pos : Pos} {e : Expr} {es : List Expr} {t : TA} {pl : Sem Bool}
/-- C.m(e, ..), m a function of the own class C -/
theorem pe_clsfn (hg : Gl X cn) (hm : X.mg cn = some (.ref C)) (hga : PySem.W.specialIn X.K (.ref C) "__getattribute__" = some (some (.builtin "type.__getattribute__"))) (hty : PySem.W.typeIn X.K (.ref C) = some (.type "type")) (hrd : PySem.W.readsIn X.K C (.type "type") = true)
    (hf : PySem.W.findCls X.K (.ref C) (.type "type") m = some (.val (.ref f))) (F : FnOk X.prog X.w X.K X.mg X.base CX k f fd ps sp) (hr : Room k X.A) (hk : PySem.W.keepIn X.K (.ref f) = true) (hb : L2.Binds X.K fd ps ds) (hd : Vals dvs ds) (hx : Passes CX X E) (ha : PA X (e :: es) t)
    (hc : eval (.Call (.Attribute (.Name cn p1) m p2) (e :: es) [] pos) X.env = (do
      let ov ← eval (.Name cn p1) X.env
      standAt p2.atName
      let (f, first) ← holding [ov] (getMethod ov m pl)
      callWith pos f first (backTo pos (starEach (e :: es) X.env)) (backToKw pos (keywordEach [] X.env))) := by rfl)
    (hdb : (cn == ("__debug__" : Str)) = false := by decide) (he : starEach (e :: es) X.env = (false, eval e X.env) :: starEach es X.env := by rfl) (hpl : (backTo pos (starEach es X.env)).any (·.1) = false := by rfl) :
    PE X (.Call (.Attribute (.Name cn p1) m p2) (e :: es) [] pos) (tCall sp dvs E t) where
  run pins s σ H Q I want :=
    have ⟨_, fr⟩ := I.fr
    have args := ha.run pos pins _ σ H _ (I.tok _) want
    have called := PySem.W.callWith_K (h₀ := X.base) I.ok.mod.kin hk (thn args fun us s1 ⟨_, _, I1, vals, want1⟩ => ⟨I1.kIn, run_fn F hr hb hd hx I1 vals want1⟩) he hpl
    PySem.W.methodCall_KW (ld_glob I hg hm (PySem.W.method_of_cls fr I.ok.mod.kin hga (PySem.W.cls_val fr I.ok.mod.kin hty hrd hf rfl called)) hdb) hc
end
/-- the exception at a, of the class C, its dict at dx with the fields fs; all else as in H -/
structure Made (H : Hp) (a dx C : Addr) (fs : List (Str × V)) (H' : Hp) : Prop where
  self_ : H' a = some (exo a C (some dx))
  dict : H' dx = some (exd dx fs)
  other : ∀ b, b ≠ a → b ≠ dx → H' b = H b
/-- C is raised with the fields fs -/
def Raised (C : Addr) (H : Hp) (E : XK) (fs : List (Str × V)) : Prop := ∀ (d : Addr) (H' : Hp), Same H H' → H' d = some (.xd fs) → E (.ref C) (some d) H'
theorem Raised.mono {C : Addr} {H H1 : Hp} {E : XK} {fs : List (Str × V)} (h : Raised C H E fs) (s : Same H H1) : Raised C H1 E fs := fun d H' s' hd => h d H' (fun b o e => s' b o (s b o e)) hd
theorem raised_made {C : Addr} {H : Hp} {E : XK} {fs : List (Str × V)} (h : Raised C H E fs) {a dx : Addr} {H2 : Hp} (ha : H a = none) (hd : upd H a (exo a C none) dx = none) (m : Made (upd H a (exo a C none)) a dx C fs H2) :
    V.non = V.non ∧ ∃ (d : Addr) (fs : List (Str × V)), H2 a = some (exo a C (some d)) ∧ H2 d = some (exd d fs) ∧ H d = none ∧ E (.ref C) (some d) (upd (del H2 a) d (.xd fs)) := by
  have ne : dx ≠ a := fun z => by rw [z, upd_same] at hd; cases hd
  have hd' : H dx = none := by rw [upd_ne ne] at hd; exact hd
  refine ⟨rfl, dx, fs, m.self_, m.dict, hd', h _ _ (fun b o hb => ?_) upd_same⟩
  have n1 : b ≠ a := ne_of_none hb ha
  have n2 : b ≠ dx := ne_of_none hb hd'
  rw [upd_ne n2, del_ne n1, m.other b n1 n2, upd_ne n1]
  exact hb
def sp_PEinit (K : PySem.W.Frag) : Sp := fun vs H Q _ => ∃ (a C : Addr) (y : V), vs = [.ref a, y] ∧ OexC K C ∧ PySem.W.findIn K (.ref C) "why" = some none ∧ H a = some (exo a C none) ∧ ∀ dx H', H dx = none → dx ≠ a → Made H a dx C [("why", y)] H' → Q .non H'
abbrev FnPE (K : PySem.W.Frag) (fd : FuncData) : Prop := FunD K "__init__" "PlaneError.__init__" (defArgs s_PEinit) (defBody s_PEinit) (defScope s_PEinit) [.str "invalid"] [] (He.fAd K ("PlaneError", some "__init__")) fd
theorem ok_PEinit {P : Program} {w : World} {K : PySem.W.Frag} {mg : Str → Option Value} {base : Heap} {fd : FuncData} (T : Txt K mg w) (F : FnPE K fd) : FnOk P w K mg base CX0 1 (He.fAd K ("PlaneError", some "__init__")) fd pss_PEinit (sp_PEinit K) := by
  have O := exT T.ex
  refine F.ok scs_PEinit (fun vs H Q E h => ?len) (fun cdv A outer s H vs Q E hr h => ?body)
  case len => obtain ⟨a, C, y, rfl, _⟩ := h; rfl
  case body =>
  obtain ⟨a, C, y, rfl, hO, hW, ha, k⟩ := h
  refine ⟨_, PSs.nox (pss_cons (ps_expr (pe_veinit (pl := _) rfl T.n_ValueError O.vei (pa_cons (pv 0) (pa_cons (pv 1) pa_nil)) rfl)) (pss_one (ps_ost (pv 0) (pv 1)))), ?_⟩
  refine ⟨_, rfl, _, rfl, a, C, [y], rfl, (by show 1 ≤ 1000; decide), hO, ha, ?_⟩
  refine ⟨_, rfl, _, rfl, a, C, rfl, hO, hW, .inl ⟨ha, fun dx hx nx => k dx _ hx nx ⟨upd_same, by rw [upd_ne nx, upd_same], fun b n1 n2 => by rw [upd_ne n1, upd_ne n2]⟩⟩⟩
theorem bi_PEinit {K : PySem.W.Frag} {fd : FuncData} (F : FnPE K fd) : L2.Binds K fd pss_PEinit [] := by
  obtain ⟨ds, hv, hb⟩ := FunD.binds1 (ps := pss_PEinit) F 2 1 (by simp) (by rfl) fun _ _ _ _ _ _ _ us its h1 h2 => match us, its, h1, h2 with | [_, _], [_], _, _ => ⟨_, rfl, rfl⟩
  cases hv
  exact hb

abbrev cBN (K : PySem.W.Frag) : Addr := He.ga K "BadName"
def sp_BNinit (K : PySem.W.Frag) : Sp := fun vs H Q _ => ∃ (a : Addr) (x : V), vs = [.ref a, x] ∧ H a = some (exo a (cBN K) none) ∧ ∀ dx H', H dx = none → dx ≠ a → Made H a dx (cBN K) [("name", x), ("why", .str "name")] H' → Q .non H'
abbrev FnBN (K : PySem.W.Frag) (fd : FuncData) : Prop := FunD K "__init__" "BadName.__init__" (defArgs s_BNinit) (defBody s_BNinit) (defScope s_BNinit) [] [] (He.fAd K ("BadName", some "__init__")) fd
theorem ok_BNinit {P : Program} {w : World} {K : PySem.W.Frag} {mg : Str → Option Value} {base : Heap} {fd : FuncData} (T : Txt K mg w) (F : FnBN K fd) : FnOk P w K mg base CX0 2 (He.fAd K ("BadName", some "__init__")) fd pss_BNinit (sp_BNinit K) := by
  have O := exT T.ex
  obtain ⟨fdp, Fp⟩ := T.d_PlaneError___init__
  have Gp := ok_PEinit (P := P) (w := w) (base := base) T Fp
  have bp := bi_PEinit Fp
  refine F.ok scs_BNinit (fun vs H Q E h => ?len) (fun cdv A outer s H vs Q E hr h => ?body)
  case len => obtain ⟨a, y, rfl, _⟩ := h; rfl
  case body =>
  obtain ⟨a, x, rfl, ha, k⟩ := h
  refine ⟨_, PSs.nox (pss_cons (ps_expr (pe_clsfn (pl := _) rfl T.g_PlaneError O.bga_PlaneError O.bty_PlaneError O.brd_PlaneError O.bin_PlaneError Gp hr O.bkp_PlaneError bp .nil pass0 (pa_cons (pv 0) (pa_cons pe_str pa_nil)) rfl)) (pss_one (ps_ost (pv 0) (pv 1)))), ?_⟩
  refine ⟨_, rfl, a, cBN K, _, rfl, O.oex_BadName, O.no_BadName_why, ha, fun dx H1 hx nx m => ?_⟩
  refine ⟨_, rfl, _, rfl, a, cBN K, rfl, O.oex_BadName, O.no_BadName_name, .inr ⟨dx, _, m.self_, m.dict, (by show 1 ≤ 900; decide), k dx _ hx nx ⟨?_, upd_same, fun b n1 n2 => ?_⟩⟩⟩
  · rw [upd_ne (Ne.symm nx)]; exact m.self_
  · rw [upd_ne n2]; exact m.other b n1 n2
theorem bi_BNinit {K : PySem.W.Frag} {fd : FuncData} (F : FnBN K fd) : L2.Binds K fd pss_BNinit [] := F.bindsN (fun _ _ _ _ _ _ us hl => match us, hl with | [_, _], _ => rfl)

/-! ### x.rsplit(sep, k) -/
/-- how many pieces there can be -/
theorem rsplit_few (a b : Str) (k : Int) (room : a.length + 2 ≤ sizeLine) : (Builtin.Str.partsBetween a (Builtin.Str.occurrencesFromRight a b (limitOf a k)) b.length).length ≤ sizeLine ∧ (PySem.Txt.rsplitMax a b k).length ≤ sizeLine := by
  have most : (Builtin.Str.partsBetween a (Builtin.Str.occurrencesFromRight a b (limitOf a k)) b.length).length ≤ sizeLine := by have := StrLaws.occR_length_le_len a b (limitOf a k); rw [length_partsBetween]; omega
  have one : ∀ z : Str, [z].length ≤ sizeLine := fun _ => smallN (by show 1 ≤ 1000; decide)
  refine ⟨most, ?_⟩
  unfold PySem.Txt.rsplitMax
  repeat' split
  all_goals first | exact one _ | exact most
theorem mt_rsplitMax {X : Cx} : MtR X "str.rsplit" (fun x xs H Q => ∃ (a b : Str) (k : Int), x = .str a ∧ xs = [.str b, .int k] ∧ (b.length == 0) = false ∧ -(2 ^ 63) ≤ k ∧ k < 2 ^ 63 ∧ a.length + 2 ≤ sizeLine ∧ rNewStrs (PySem.Txt.rsplitMax a b k) H Q) := fun pins s σ H x xs v us Q I rx rs ⟨a, b, k, ex, exs, full, low, high, room, want⟩ => by
  subst ex exs
  obtain ⟨t, rfl⟩ := rx
  obtain ⟨_, rest1, rfl, ⟨u, rfl⟩, rs2⟩ : ∃ u1 r, us = u1 :: r ∧ RelV (.str b) u1 ∧ Vals [.int k] r := by cases rs with | cons r1 r2 => exact ⟨_, _, rfl, r1, r2⟩
  obtain ⟨_, rfl, ⟨n, rfl⟩⟩ := vals1 rs2
  have fits : (decide (k < -(2 ^ 63 : Int)) || decide (k ≥ 2 ^ 63)) = false := Bool.or_eq_false_iff.mpr ⟨decide_eq_false (by omega), decide_eq_false (by omega)⟩
  have ⟨few, fewR⟩ := rsplit_few a b k room
  -- the call goes by one of three roads; in each the pieces laid are those of rsplitMax
  cases c1 : (decide (a.length < b.length) || decide (Builtin.Str.strKind a < Builtin.Str.strKind b)) with
  | true => exact call_meets PySem.F.slot_str_rsplit (typeIs_str _ _ _) PySem.F.entry_str_rsplit (PySem.F.args_str_rsplit_3 _ _ _) (meets_str_rsplit_max_cannot_occur a b k t u n fits c1) (laid_strs (l := [(a, t)]) (k := s.toks) I (if_pos c1).symm fewR want)
  | false =>
    have no1 := ne_true_of_eq_false c1
    cases c2 : (Builtin.Str.occurrencesFromRight a b (limitOf a k)).isEmpty with
    | true => exact call_meets PySem.F.slot_str_rsplit (typeIs_str _ _ _) PySem.F.entry_str_rsplit (PySem.F.args_str_rsplit_3 _ _ _) (meets_str_rsplit_max_not_found a b k t u n fits c1 full c2) (laid_strs (l := [(a, t)]) (k := s.toks) I ((if_neg no1).trans (if_pos c2)).symm fewR want)
    | false =>
      refine call_meets PySem.F.slot_str_rsplit (typeIs_str _ _ _) PySem.F.entry_str_rsplit (PySem.F.args_str_rsplit_3 _ _ _) (meets_str_rsplit_sep_max a b k t u n fits c1 full c2 (by omega) few) ?_
      rw [strsFrom_eq]
      exact laid_strs I ((numbered_texts _ _).trans ((if_neg no1).trans (if_neg (ne_true_of_eq_false c2))).symm) fewR want
/-! what it gives for one dash -/
theorem occR_full (s sub : Str) : ∀ (l : List Nat) (st : Array Nat × Nat), ¬ st.fst.size < 1 → (forIn l st (StrLaws.occRBody s sub 1)).run = st
  | [], st, h => rfl
  | a :: l, st, h => by
    rw [List.forIn_cons]
    unfold StrLaws.occRBody
    rw [if_neg (fun z => h z.1.1)]
    exact occR_full s sub l st h
theorem occR_one (s sub : Str) (hs : sub.length = 1) {j : Nat} (hj : j ≤ s.length) (at_ : j < s.length ∧ Builtin.Str.subAt s sub j = true) (no : ∀ i, j < i → i < s.length → Builtin.Str.subAt s sub i = false) :
    ∀ (n k : Nat), s.length - k - j + 1 ≤ n → s.length - k ≥ j → k ≤ s.length → (forIn (List.range' k n) ((#[], s.length) : Array Nat × Nat) (StrLaws.occRBody s sub 1)).run = (#[j], j)
  | 0, k, h, h2, h3 => by omega
  | n + 1, k, h, h2, h3 => by
    rw [List.range'_succ, List.forIn_cons]
    unfold StrLaws.occRBody
    by_cases e : s.length - k = j
    · rw [e, if_pos ⟨⟨by show 0 < 1; decide, by show j + sub.length ≤ s.length; omega⟩, at_.2⟩]
      exact occR_full s sub _ _ (by simp)
    · rw [if_neg]
      · exact occR_one s sub hs hj at_ no n (k + 1) (by omega) (by omega) (by omega)
      · rintro ⟨⟨_, q⟩, z⟩
        rw [no _ (by omega) (by omega)] at z
        cases z

/-! ### names -/
def Vl (H : Hp) (x : V) : Prop := flat x ∨ ∃ a, x = .ref a ∧ ((∃ xs, H a = some (.lst xs)) ∨ (∃ xs, H a = some (.tup xs)) ∨ ∃ kvs, H a = some (.dK kvs))
def isI : V → Bool
  | .int _ => true
  | _ => false
def isS : V → Bool
  | .str _ => true
  | _ => false
theorem vl_ty {K : PySem.W.Frag} {H : Hp} {x : V} (h : Vl H x) (c : String) (f : V → Bool) (h1 : kitB "NoneType" c = some (f .non)) (h2 : ∀ b, kitB "bool" c = some (f (.bl b))) (h3 : ∀ i, kitB "int" c = some (f (.int i))) (h4 : ∀ z, kitB "str" c = some (f (.str z)))
    (h5 : ∀ a, kitB "list" c = some (f (.ref a))) (h6 : ∀ a, kitB "tuple" c = some (f (.ref a))) (h7 : ∀ a, kitB "dict" c = some (f (.ref a))) : ∃ u, TyX K H x u ∧ PySem.W.kitOne K u (.type c) = some (f x) := by
  rcases h with hf | ⟨a, rfl, ⟨xs, g⟩ | ⟨xs, g⟩ | ⟨xs, g⟩⟩
  · cases x with
    | non => exact ⟨_, .base .non, kit_ty h1⟩
    | bl b => exact ⟨_, .base (.bl b), kit_ty (h2 b)⟩
    | int i => exact ⟨_, .base (.int i), kit_ty (h3 i)⟩
    | str z => exact ⟨_, .base (.str z), kit_ty (h4 z)⟩
    | byt _ => exact hf.elim
    | flt _ => exact hf.elim
    | ref _ => exact hf.elim
    | ty _ => exact hf.elim
  · exact ⟨_, .base (.lst g), kit_ty (h5 a)⟩
  · exact ⟨_, .base (.tup g), kit_ty (h6 a)⟩
  · exact ⟨_, .base (.dK g), kit_ty (h7 a)⟩
theorem vl_str {K : PySem.W.Frag} {H : Hp} {x : V} (h : Vl H x) : ∃ u, TyX K H x u ∧ PySem.W.kitOne K u (.type "str") = some (isS x) :=
  vl_ty h "str" isS (by decide +kernel) (fun _ => by show _ = some false; decide +kernel) (fun _ => by show _ = some false; decide +kernel) (fun _ => by show _ = some true; decide +kernel) (fun _ => by show _ = some false; decide +kernel) (fun _ => by show _ = some false; decide +kernel) (fun _ => by show _ = some false; decide +kernel)
def isIB : V → Bool
  | .int _ => true
  | .bl _ => true
  | _ => false
def isBl : V → Bool
  | .bl _ => true
  | _ => false
theorem vl_int {K : PySem.W.Frag} {H : Hp} {x : V} (h : Vl H x) : ∃ u, TyX K H x u ∧ PySem.W.kitOne K u (.type "int") = some (isIB x) :=
  vl_ty h "int" isIB (by decide +kernel) (fun _ => by show _ = some true; decide +kernel) (fun _ => by show _ = some true; decide +kernel) (fun _ => by show _ = some false; decide +kernel) (fun _ => by show _ = some false; decide +kernel) (fun _ => by show _ = some false; decide +kernel) (fun _ => by show _ = some false; decide +kernel)
theorem vl_bool {K : PySem.W.Frag} {H : Hp} {x : V} (h : Vl H x) : ∃ u, TyX K H x u ∧ PySem.W.kitOne K u (.type "bool") = some (isBl x) :=
  vl_ty h "bool" isBl (by decide +kernel) (fun _ => by show _ = some true; decide +kernel) (fun _ => by show _ = some false; decide +kernel) (fun _ => by show _ = some false; decide +kernel) (fun _ => by show _ = some false; decide +kernel) (fun _ => by show _ = some false; decide +kernel) (fun _ => by show _ = some false; decide +kernel)
def sp_is_integer (K : PySem.W.Frag) : Sp := fun vs H Q _ => ∃ (x : V), vs = [x] ∧ Vl H x ∧ Q (.bl (isI x)) H
theorem ok_is_integer {P : Program} {w : World} {K : PySem.W.Frag} {mg : Str → Option Value} {base : Heap} {fd : FuncData} (T : Txt K mg w) (F : FnP K "is_integer" s_is_integer [] fd) : FnOk P w K mg base CX0 1 (He.ga K "is_integer") fd ps_is_integer (sp_is_integer K) := by
  refine F.ok sc_is_integer (fun vs H Q E h => ?len) (fun cdv A outer s H vs Q E hr h => ?body)
  case len => obtain ⟨x, rfl, hf, k⟩ := h; rfl
  case body =>
  obtain ⟨x, rfl, hf, k⟩ := h
  have hu := hu_of hr
  refine ⟨_, PSs.nox (pss_one (ps_ret (pe_and (pe_callB call_isi (by rfl) T.n_isinstance (by decide +kernel) (pa_cons (pv 0) (pa_cons (pe_bltn (v := .ty "int") rfl T.n_int (by decide +kernel) rfl) pa_nil))) (pe_one (pe_not (pe_callB call_isi (by rfl) T.n_isinstance (by decide +kernel) (pa_cons (pv 0) (pa_cons (pe_bltn (v := .ty "bool") rfl T.n_bool (by decide +kernel) rfl) pa_nil)))))))), ?_⟩
  obtain ⟨u, h1, h2⟩ := vl_int (K := K) hf
  obtain ⟨u', h3, h4⟩ := vl_bool (K := K) hf
  refine ⟨_, rfl, _, .ty "int", _, _, _, rfl, .ty "int", h1, h2, _, rfl, ?_⟩
  cases x with
  | int i => exact iteT ⟨_, rfl, _, .ty "bool", _, _, _, rfl, .ty "bool", h3, h4, _, rfl, k⟩
  | bl b => exact iteT ⟨_, rfl, _, .ty "bool", _, _, _, rfl, .ty "bool", h3, h4, _, rfl, k⟩
  | non => exact iteF k
  | str _ => exact iteF k
  | byt _ => exact iteF k
  | flt _ => exact iteF k
  | ref _ => exact iteF k
  | ty _ => exact iteF k
def tl (z : Str) : List Nat := z.cps.toList
def smallT : Str := "abcdefghijklmnopqrstuvwxyz"
def digitT : Str := "0123456789"
def inSm (c : Nat) : Bool := decide (c ∈ tl smallT)
def inSD (c : Nat) : Bool := decide (c ∈ tl (smallT ++ digitT))
def inDg (c : Nat) : Bool := decide (c ∈ tl digitT)
def firstSm : List Nat → Bool
  | c :: _ => inSm c
  | [] => false
/-- a user name -/
def userL (l : List Nat) : Bool := decide (1 ≤ l.length ∧ l.length ≤ 10) && (firstSm l && l.all inSD)
def userB (z : Str) : Bool := userL (tl z)
def userV : V → Bool
  | .str z => userB z
  | _ => false
theorem len_tl (z : Str) : z.length = (tl z).length := by
  unfold tl; rw [Array.length_toList]; rfl
theorem small5 {n : Nat} (h : n ≤ 100000) : n ≤ sizeLine := by rw [sizeLine_eq]; omega
theorem small5' {n : Nat} (h : n ≤ 100000) : n < sizeLine := by rw [sizeLine_eq]; omega
theorem take_at {z : Str} {i : Nat} {c : Nat} (h : z.cps[i]? = some c) : (tl z)[i]? = some c := by
  unfold tl; rw [Array.getElem?_toList]; exact h
theorem size_tl (z : Str) : z.cps.size = (tl z).length := by unfold tl; rw [Array.length_toList]
/-- a text is not too long -/
def Shrt (x : V) : Prop := ∀ z, x = .str z → z.length ≤ 100000
def sp_is_user_name (K : PySem.W.Frag) : Sp := fun vs H Q _ => ∃ (x : V), vs = [x] ∧ Vl H x ∧ Shrt x ∧ ∀ H', Same H H' → Q (.bl (userV x)) H'
theorem ok_is_user_name {P : Program} {w : World} {K : PySem.W.Frag} {mg : Str → Option Value} {base : Heap} {fd : FuncData} (T : Txt K mg w) (F : FnP K "is_user_name" s_is_user_name [] fd) : FnOk P w K mg base CX0 1 (He.ga K "is_user_name") fd ps_is_user_name (sp_is_user_name K) := by
  obtain ⟨t_SMALL, h_SMALL⟩ := T.c_SMALL
  obtain ⟨t_DIGITS, h_DIGITS⟩ := T.c_DIGITS
  obtain ⟨t_MOST_SIGNS, h_MOST_SIGNS⟩ := T.c_MOST_SIGNS
  refine F.ok sc_is_user_name (fun vs H Q E h => ?len) (fun cdv A outer s H vs Q E hr h => ?body)
  case len => obtain ⟨x, rfl, hv, hz, k⟩ := h; rfl
  case body =>
  obtain ⟨x, rfl, hv, hz, k⟩ := h
  have hu := hu_of hr
  refine ⟨_, PSs.nox (pss_cons (ps_if (PW.pt (pw_or (pt_not (pt_val (pe_callB call_isi (by rfl) T.n_isinstance (by decide +kernel) (pa_cons (pv 0) (pa_cons (pe_bltn (v := .ty "str") rfl T.n_str (by decide +kernel) rfl) pa_nil))))) (pw_or (pt_not (pt_chain op_le op_le pe_int (pe_callB call_len_str (by rfl) T.n_len (by decide +kernel) (pa_cons (pv 0) pa_nil)) (pe_glob (v := .int 10) rfl h_MOST_SIGNS ⟨_, rfl⟩))) (pw_or1 (pt_cmpR op_notIn_sign (pe_ix ix_str (pv 0) pe_int (fun _ _ => rfl)) (pe_glob (v := .str "abcdefghijklmnopqrstuvwxyz") rfl h_SMALL ⟨_, rfl⟩) (by rfl)))))) (pss_one (ps_ret pe_bl)) pss_nil)
    (pss_one (ps_ret (pe_callB (cr_all rfl) (by rfl) T.n_all (by decide +kernel) (pa_cons (pe_lc (own := [("sign", 1)]) rfl sc_is_user_name.nd (pi_str (pv 0)) (blkOk_by (own := [("sign", 1)]) (N := N_is_user_name) (sc := defScope s_is_user_name) (by decide +kernel)) (fun _ _ _ _ _ => (pg_name (i := 1) sc_is_user_name.nd rfl (Or.inl rfl))) (fun _ _ _ _ _ => pts_nil) (fun _ _ _ _ _ => (pe_cmpR op_in_sign (pv 1) (pe_op op_add_str (pe_glob (v := .str "abcdefghijklmnopqrstuvwxyz") rfl h_SMALL ⟨_, rfl⟩) (pe_glob (v := .str "0123456789") rfl h_DIGITS ⟨_, rfl⟩)) (by rfl)))) pa_nil))))), ?_⟩
  obtain ⟨u, h1, h2⟩ := vl_str (K := K) hv
  have other : isS x = false → userV x = false := fun e => by cases x <;> first | rfl | cases e
  by_cases hs : isS x = false
  · refine ⟨_, rfl, x, .ty "str", _, _, _, rfl, .ty "str", h1, h2, _, rfl, ?_⟩
    rw [hs]
    have q := k H (Same.refl H)
    rw [other hs] at q
    exact iteT (iteT q)
  obtain ⟨z, rfl⟩ : ∃ z, x = .str z := by cases x <;> first | exact ⟨_, rfl⟩ | exact absurd rfl hs
  replace k : ∀ H', Same H H' → Q (.bl (userB z)) H' := k
  replace hz := hz z rfl
  have bad : userB z = false → Q (.bl false) H := fun e => by have := k H (Same.refl H); rw [e] at this; exact this
  refine ⟨_, rfl, .str z, .ty "str", _, _, _, rfl, .ty "str", h1, h2, _, rfl, ?_⟩
  refine iteF ⟨_, rfl, z, rfl, small5 hz, _, _, rfl, rfl, _, rfl, ?_⟩
  by_cases h1 : (1 : Int) ≤ (z.length : Int)
  · rw [decide_eq_true h1]
    refine iteT ⟨_, _, rfl, rfl, _, rfl, ?_⟩
    by_cases h2 : (z.length : Int) ≤ 10
    · rw [decide_eq_true h2]
      refine iteF ?_
      obtain ⟨c, cs, ec⟩ : ∃ c cs, tl z = c :: cs := by
        cases e : tl z with
        | nil => rw [len_tl, e] at h1; exact absurd h1 (by decide)
        | cons c cs => exact ⟨c, cs, rfl⟩
      have e0 : (tl z)[0]? = some c := by rw [ec]; rfl
      refine ⟨_, rfl, z, 0, c, rfl, rfl, small5 hz, atI_nat (j := 0) e0, ⟨_, _, rfl, rfl, _, rfl, ?_⟩⟩
      by_cases hc : c ∈ tl smallT
      · have hc2 : decide (c ∈ (Str.ofString "abcdefghijklmnopqrstuvwxyz").cps.toList) = true := decide_eq_true hc
        rw [hc2]
        refine iteF ?_
        refine ⟨_, rfl, z, rfl, fun D hD => ?_⟩
        refine lc_it walk_str (fun i H' => Same H H' ∧ H' D = some (.lst (((tl z).take i).map fun c => V.bl (inSD c)))) ⟨Same.new hD, upd_same⟩ (fun _ _ _ _ => True.intro) ?_ ?_
        · rintro i x H1 H2 hi ⟨sm, gD⟩ ⟨rfl, c', hc', rfl⟩
          refine ⟨rfl, yes_ ?_⟩
          refine iteT ?_
          refine ⟨_, rfl, _, _, rfl, rfl, (by decide), _, _, rfl, rfl, ?_⟩
          refine ⟨_, gD, small5' (by rw [List.length_map, List.length_take]; rw [len_tl] at hz; omega), fun b o hb => ?_, ?_⟩
          · rw [upd_ne (ne_of_none hb hD)]; exact sm b o hb
          · rw [upd_same, get_take (take_at hc'), List.map_append]; rfl
        · rintro H' ⟨sm, gD⟩
          rw [size_tl, List.take_length] at gD
          have gD2 : H' D = some (.lst (((tl z).map inSD).map V.bl)) := by rw [gD, List.map_map]; rfl
          refine ⟨D, (tl z).map inSD, rfl, SqL.of gD2, ?_⟩
          have := k H' sm
          have e : userB z = ((tl z).map inSD).all id := by
            unfold userB userL
            rw [decide_eq_true (show 1 ≤ (tl z).length ∧ (tl z).length ≤ 10 by rw [← len_tl]; omega)]
            have : firstSm (tl z) = true := by rw [ec]; exact decide_eq_true hc
            rw [this]
            simp [List.all_map]
          rw [e] at this
          exact this
      · have hc2 : decide (c ∈ (Str.ofString "abcdefghijklmnopqrstuvwxyz").cps.toList) = false := decide_eq_false hc
        rw [hc2]
        refine iteT (bad ?_)
        unfold userB userL
        have : firstSm (tl z) = false := by rw [ec]; exact decide_eq_false hc
        rw [this]; simp
    · rw [decide_eq_false h2]
      refine iteT (iteT (bad ?_))
      unfold userB userL
      rw [decide_eq_false (show ¬ (1 ≤ (tl z).length ∧ (tl z).length ≤ 10) by rw [← len_tl]; omega)]; rfl
  · rw [decide_eq_false h1]
    refine iteF ⟨_, rfl, iteT (iteT (bad ?_))⟩
    unfold userB userL
    rw [decide_eq_false (show ¬ (1 ≤ (tl z).length ∧ (tl z).length ≤ 10) by rw [← len_tl]; omega)]; rfl

theorem kdct_of {K : PySem.W.Frag} {w : World} {a : Addr} {kvs : List (Str × He.Dv)} (h : ∃ es n, KDict K w a es n) (hv : He.valsB K a kvs = true) {q : Str × He.Dv} (hq : q ∈ kvs) : KDct K w a q.1 (q.2.v K) := by
  obtain ⟨es, n, hl, hk, _⟩ := h
  obtain ⟨u, e, r⟩ := He.valsB_ok hv hq
  exact ⟨es, n, u, hl, hk, e, r⟩
/-! ### numbers -/
theorem S_tl (z : Str) : SX.S (tl z) = z := by
  obtain ⟨a⟩ := z
  show (⟨a.toList.toArray⟩ : Str) = _
  rw [Array.toArray_toList]
theorem tl_S (l : List Nat) : tl (SX.S l) = l := rfl
def numF (l : List Nat) (w : Nat) : Option Nat := if (1 ≤ l.length ∧ l.length ≤ w) ∧ l.all inDg = true then (if TL.numL (NumText.digitsVal l) = l then some (NumText.digitsVal l) else none) else none
def oInt : Option Nat → V
  | some n => .int (n : Int)
  | none => .non
theorem dg_all {l : List Nat} (h : l.all inDg = true) : NumText.AllDigits l := fun c hc => by
  have h1 := of_decide_eq_true (List.all_eq_true.mp h c hc)
  have e : tl digitT = [48, 49, 50, 51, 52, 53, 54, 55, 56, 57] := by decide +kernel
  rw [e] at h1
  simp only [List.mem_cons, List.not_mem_nil, or_false] at h1
  omega
theorem dv_lt : ∀ (l : List Nat) (acc : Nat), NumText.AllDigits l → l.foldl (fun a c => a * 10 + (c - 48)) acc < (acc + 1) * 10 ^ l.length
  | [], acc, _ => by simp
  | c :: l, acc, h => by
    have q := dv_lt l (acc * 10 + (c - 48)) h.tail
    have hc := h.head
    have e : (acc + 1) * 10 ^ (c :: l).length = ((acc + 1) * 10) * 10 ^ l.length := by rw [List.length_cons, Nat.pow_succ, Nat.mul_assoc, Nat.mul_comm (10 ^ l.length)]
    rw [e]
    exact Nat.lt_of_lt_of_le q (Nat.mul_le_mul_right _ (by omega))
theorem dv_lt6 {l : List Nat} (h : NumText.AllDigits l) (hl : l.length ≤ 6) : NumText.digitsVal l < 1000000 := by
  have q := dv_lt l 0 h
  have e : (0 + 1) * 10 ^ l.length ≤ 10 ^ 6 := by rw [Nat.zero_add, Nat.one_mul]; exact Nat.pow_le_pow_right (by decide) hl
  exact Nat.lt_of_lt_of_le q e
theorem dv_log {l : List Nat} (h : NumText.AllDigits l) (hl : l.length ≤ 6) : ((NumText.digitsVal l : Nat) : Int).natAbs.log2 < 1920 := by
  have q := dv_lt6 h hl
  rw [Int.natAbs_natCast]
  by_cases z : NumText.digitsVal l = 0
  · rw [z]; decide
  · exact (Nat.log2_lt z).mpr (Nat.lt_trans q (by decide +kernel))
def sp_number_of (K : PySem.W.Frag) : Sp := fun vs H Q _ => ∃ (z : Str) (hi : Int) (w : Nat), vs = [.str z, .int hi] ∧ z.length ≤ 100000 ∧ (hi = 99 ∧ w = 2 ∨ hi = 999999 ∧ w = 6) ∧ ∀ H', Same H H' → Q (oInt (numF (tl z) w)) H'
theorem ok_number_of {P : Program} {w : World} {K : PySem.W.Frag} {mg : Str → Option Value} {base : Heap} {fd : FuncData} (T : Txt K mg w) (F : FnP K "number_of" s_number_of [] fd) : FnOk P w K mg base CX0 1 (He.ga K "number_of") fd ps_number_of (sp_number_of K) := by
  obtain ⟨t_DIGITS, h_DIGITS⟩ := T.c_DIGITS
  refine F.ok sc_number_of (fun vs H Q E h => ?len) (fun cdv A outer s H vs Q E hr h => ?body)
  case len => obtain ⟨z, hi, wd, rfl, hz, hw, k⟩ := h; rfl
  case body =>
  obtain ⟨z, hi, wd, rfl, hz, hw, k⟩ := h
  have hu := hu_of hr
  refine ⟨_, PSs.nox (pss_cons (ps_if (PW.pt (pw_or (pt_not (pt_chain op_le op_le pe_int (pe_callB call_len_str (by rfl) T.n_len (by decide +kernel) (pa_cons (pv 0) pa_nil)) (pe_callB call_len_str (by rfl) T.n_len (by decide +kernel) (pa_cons (pe_callTy call_str_int (by rfl) T.n_str (by decide +kernel) (pa_cons (pv 1) pa_nil)) pa_nil)))) (pw_or1 (pt_not (pt_val (pe_callB (cr_all rfl) (by rfl) T.n_all (by decide +kernel) (pa_cons (pe_lc (own := [("sign", 2)]) rfl sc_number_of.nd (pi_str (pv 0)) (blkOk_by (own := [("sign", 2)]) (N := N_number_of) (sc := defScope s_number_of) (by decide +kernel)) (fun _ _ _ _ _ => (pg_name (i := 2) sc_number_of.nd rfl (Or.inl rfl))) (fun _ _ _ _ _ => pts_nil) (fun _ _ _ _ _ => (pe_cmpR op_in_sign (pv 2) (pe_glob (v := .str "0123456789") rfl h_DIGITS ⟨_, rfl⟩) (by rfl)))) pa_nil))))))) (pss_one (ps_ret pe_non)) pss_nil)
    (pss_one (ps_ret (pe_ifExp (pt_cmpR op_eq (pe_callTy call_str_int (by rfl) T.n_str (by decide +kernel) (pa_cons (pe_callTy call_int_str (by rfl) T.n_int (by decide +kernel) (pa_cons (pv 0) pa_nil)) pa_nil)) (pv 0) (nomark _)) (pe_callTy call_int_str (by rfl) T.n_int (by decide +kernel) (pa_cons (pv 0) pa_nil)) pe_non)))), ?_⟩
  have w6 : wd ≤ 6 := by rcases hw with ⟨_, rfl⟩ | ⟨_, rfl⟩ <;> decide
  have hs : (Str.ofString (toString hi)).length = wd ∧ hi.natAbs.log2 < 1920 := by rcases hw with ⟨rfl, rfl⟩ | ⟨rfl, rfl⟩ <;> exact ⟨by decide +kernel, by decide +kernel⟩
  have bad : numF (tl z) wd = none → ∀ H', Same H H' → Q .non H' := fun e H' S => by have q := k H' S; rw [e] at q; exact q
  refine ⟨_, rfl, z, rfl, small5 hz, _, _, rfl, rfl, _, rfl, ?_⟩
  by_cases h1 : (1 : Int) ≤ (z.length : Int)
  rotate_left
  · rw [decide_eq_false h1]
    refine iteF ⟨_, rfl, iteT (iteT (bad ?_ H (Same.refl H)))⟩
    unfold numF
    rw [if_neg (fun q => h1 (by have := q.1.1; rw [← len_tl] at this; omega))]
  rw [decide_eq_true h1]
  refine iteT ⟨_, rfl, hi, rfl, hs.2, _, rfl, small5 (by rw [hs.1]; omega), _, _, rfl, rfl, _, rfl, ?_⟩
  rw [hs.1]
  by_cases h2 : (z.length : Int) ≤ (wd : Int)
  rotate_left
  · rw [decide_eq_false h2]
    refine iteT (iteT (bad ?_ H (Same.refl H)))
    unfold numF
    rw [if_neg (fun q => h2 (by have := q.1.2; rw [← len_tl] at this; omega))]
  rw [decide_eq_true h2]
  refine iteF ?_
  refine ⟨_, rfl, z, rfl, fun D hD => ?_⟩
  refine lc_it walk_str (fun i H' => Same H H' ∧ H' D = some (.lst (((tl z).take i).map fun c => V.bl (inDg c)))) ⟨Same.new hD, upd_same⟩ (fun _ _ _ _ => True.intro) ?_ ?_
  · rintro i x H1 H2 hi ⟨sm, gD⟩ ⟨rfl, c', hc', rfl⟩
    refine ⟨rfl, yes_ (iteT ?_)⟩
    refine ⟨_, rfl, _, _, rfl, rfl, ?_⟩
    refine ⟨_, gD, small5' (by rw [List.length_map, List.length_take]; rw [len_tl] at hz; omega), fun b o hb => ?_, ?_⟩
    · rw [upd_ne (ne_of_none hb hD)]; exact sm b o hb
    · rw [upd_same, get_take (take_at hc'), List.map_append]; rfl
  · rintro H' ⟨sm, gD⟩
    rw [size_tl, List.take_length] at gD
    have gD2 : H' D = some (.lst (((tl z).map inDg).map V.bl)) := by rw [gD, List.map_map]; rfl
    refine ⟨D, (tl z).map inDg, rfl, SqL.of gD2, ?_⟩
    have ea : ((tl z).map inDg).all id = (tl z).all inDg := by rw [List.all_map]; rfl
    rw [ea]
    refine ⟨_, rfl, ?_⟩
    by_cases hd : (tl z).all inDg = true
    rotate_left
    · rw [Bool.not_eq_true _ |>.mp hd]
      refine iteT (bad ?_ H' sm)
      unfold numF
      rw [if_neg (fun q => hd q.2)]
    rw [hd]
    refine iteF ?_
    have ad := dg_all hd
    have ne : tl z ≠ [] := fun e => by rw [len_tl, e] at h1; exact absurd h1 (by decide)
    have it : PySem.intText? z = some ((NumText.digitsVal (tl z) : Nat) : Int) := intText_digits ad ne (by omega)
    have lg := dv_log ad (by rw [← len_tl]; omega)
    refine ⟨_, rfl, z, _, rfl, it, by omega, _, rfl, lg, _, rfl, rfl, _, rfl, ?_⟩
    have fin := k H' sm
    have e0 : numF (tl z) wd = if TL.numL (NumText.digitsVal (tl z)) = tl z then some (NumText.digitsVal (tl z)) else none := by
      unfold numF
      rw [if_pos ⟨⟨by rw [← len_tl]; omega, by rw [← len_tl]; omega⟩, hd⟩]
    rw [e0] at fin
    by_cases c : TL.numL (NumText.digitsVal (tl z)) = tl z
    · rw [if_pos c] at fin
      rw [decide_eq_true (by show V.str (Str.ofString (toString ((NumText.digitsVal (tl z) : Nat) : Int))) = V.str z; rw [SX.num_S, c, S_tl])]
      exact iteT ⟨_, rfl, z, _, rfl, it, by omega, fin⟩
    · rw [if_neg c] at fin
      rw [decide_eq_false (fun q => c (by
        have q : V.str (Str.ofString (toString ((NumText.digitsVal (tl z) : Nat) : Int))) = V.str z := q
        rw [SX.num_S] at q
        exact congrArg tl (V.str.inj q)))]
      exact iteF fin
/-- what a made name tells: a text or a number -/
inductive What where
  | t (l : List Nat)
  | n (k : Nat)
  deriving DecidableEq
def What.v : What → V
  | .t l => .str (SX.S l)
  | .n k => .int (k : Int)
def partF (c : Nat) (l : List Nat) : Option What := if c = 110 then (if userL l = true then some (.t l) else none) else (numF l (if c = 114 then 6 else 2)).map What.n
def oWhat : Option What → V
  | some w => w.v
  | none => .non
def letters4 : List Nat := [115, 106, 110, 114]
def sp_part_of (K : PySem.W.Frag) : Sp := fun vs H Q _ => ∃ (c : Nat) (z : Str), vs = [.str (SX.S [c]), .str z] ∧ c ∈ letters4 ∧ z.length ≤ 100000 ∧ ∀ H', Same H H' → Q (oWhat (partF c (tl z))) H'
theorem ok_part_of {P : Program} {w : World} {K : PySem.W.Frag} {mg : Str → Option Value} {base : Heap} {fd : FuncData} (T : Txt K mg w) (F : FnP K "part_of" s_part_of [] fd) : FnOk P w K mg base CX0 2 (He.ga K "part_of") fd ps_part_of (sp_part_of K) := by
  obtain ⟨fd_number_of, F_number_of⟩ := T.d_number_of
  have G_number_of := ok_number_of (P := P) (w := w) (base := base) T F_number_of
  have k_number_of := F_number_of.kp
  have b_number_of := bi_number_of F_number_of
  obtain ⟨fd_is_user_name, F_is_user_name⟩ := T.d_is_user_name
  have G_is_user_name := ok_is_user_name (P := P) (w := w) (base := base) T F_is_user_name
  have k_is_user_name := F_is_user_name.kp
  have b_is_user_name := bi_is_user_name F_is_user_name
  refine F.ok sc_part_of (fun vs H Q E h => ?len) (fun cdv A outer s H vs Q E hr h => ?body)
  case len => obtain ⟨c, z, rfl, hc, hz, k⟩ := h; rfl
  case body =>
  obtain ⟨c, z, rfl, hc, hz, k⟩ := h
  have hu := hu_of hr
  refine ⟨_, PSs.nox (pss_cons (ps_if (pt_cmpR op_eq (pv 0) pe_str (nomark _)) (pss_one (ps_ret (pe_ifExp (pt_val (pe_call G_is_user_name (hr.mono (by first | decide | omega)) rfl T.g_is_user_name k_is_user_name b_is_user_name .nil pass0 (pa_cons (pv 1) pa_nil))) (pv 1) pe_non))) pss_nil)
    (pss_one (ps_ret (pe_call G_number_of (hr.mono (by first | decide | omega)) rfl T.g_number_of k_number_of b_number_of .nil pass0 (pa_cons (pv 1) (pa_cons (pe_ix ix_kdict (pe_glob (v := .ref (He.ga K "HIGHEST")) rfl T.g_HIGHEST rfl) (pv 0) (fun _ _ => rfl)) pa_nil)))))), ?_⟩
  refine ⟨_, rfl, rfl, _, rfl, ?_⟩
  by_cases hn : c = 110
  · subst hn
    rw [decide_eq_true (by decide +kernel)]
    refine iteT ⟨_, rfl, _, rfl, .inl True.intro, (fun z' e => by cases e; exact hz), fun H' S => ⟨_, rfl, ?_⟩⟩
    have q := k H' S
    show if userB z = true then _ else _
    by_cases u : userL (tl z) = true
    · have e : partF 110 (tl z) = some (.t (tl z)) := by unfold partF; rw [if_pos rfl, if_pos u]
      rw [e] at q
      rw [show userB z = true from u]
      refine iteT ⟨_, rfl, ?_⟩
      have q : Q (.str (SX.S (tl z))) H' := q
      rw [S_tl] at q
      exact q
    · have e : partF 110 (tl z) = none := by unfold partF; rw [if_pos rfl, if_neg u]
      rw [e] at q
      rw [show userB z = false from Bool.not_eq_true _ |>.mp u]
      exact iteF q
  · rw [decide_eq_false (fun q => hn (by
      have q : V.str (SX.S [c]) = V.str "n" := q
      have e := congrArg tl (V.str.inj q)
      have e2 : tl (Str.ofString "n") = [110] := by decide +kernel
      rw [e2] at e
      exact List.head_eq_of_cons_eq e))]
    refine iteF ?_
    have num : ∀ (x : Str) (hi : Int) (wd : Nat), KDct K w (He.ga K "HIGHEST") (SX.S [c]) (.int hi) → (hi = 99 ∧ wd = 2 ∨ hi = 999999 ∧ wd = 6) → (if c = 114 then 6 else 2) = wd →
        tCall (sp_number_of K) [] E0 (tCons (tVar 1) (tCons (tOp (rIxD K w) (tC (.ref (He.ga K "HIGHEST"))) (tVar 0)) tNil)) [some (.str (SX.S [c])), some (.str z)] H Q := fun x hi wd kd hw ew =>
      ⟨_, rfl, _, rfl, _, _, _, rfl, rfl, kd, z, hi, wd, rfl, hz, hw, fun H' S => by
        have q := k H' S
        unfold partF at q
        rw [if_neg hn, ew] at q
        cases e : numF (tl z) wd with
        | none => rw [e] at q; exact q
        | some m => rw [e] at q; exact q⟩
    have O := exT T.ex
    simp only [letters4, List.mem_cons, List.not_mem_nil, or_false] at hc
    rcases hc with rfl | rfl | rfl | rfl
    · exact num "s" 99 2 (kdct_of T.kd_HIGHEST O.val_HIGHEST (q := ("s", .int 99)) (by simp)) (.inl ⟨rfl, rfl⟩) rfl
    · exact num "j" 99 2 (kdct_of T.kd_HIGHEST O.val_HIGHEST (q := ("j", .int 99)) (by simp)) (.inl ⟨rfl, rfl⟩) rfl
    · exact absurd rfl hn
    · exact num "r" 999999 6 (kdct_of T.kd_HIGHEST O.val_HIGHEST (q := ("r", .int 999999)) (by simp)) (.inr ⟨rfl, rfl⟩) rfl

/-! ### the last dash -/
def lastDash : List Nat → Option (List Nat × List Nat)
  | [] => none
  | c :: l => match lastDash l with
    | some (m, e) => some (c :: m, e)
    | none => if c = 45 then some ([], l) else none
theorem dash_none : ∀ {l : List Nat}, lastDash l = none → 45 ∉ l
  | [], _ => by simp
  | c :: l, h => by
    unfold lastDash at h
    split at h
    · cases h
    · rename_i e
      split at h
      · cases h
      · rename_i hc
        intro z
        rcases List.mem_cons.mp z with q | q
        · exact hc q.symm
        · exact dash_none e q
theorem dash_some : ∀ {l m e : List Nat}, lastDash l = some (m, e) → l = m ++ 45 :: e ∧ 45 ∉ e
  | [], _, _, h => by cases h
  | c :: l, m, e, h => by
    unfold lastDash at h
    split at h
    · rename_i m' e' q
      cases h
      obtain ⟨h1, h2⟩ := dash_some q
      exact ⟨by rw [h1]; rfl, h2⟩
    · rename_i q
      split at h
      · rename_i hc
        cases h
        exact ⟨by rw [hc]; rfl, dash_none q⟩
      · cases h
theorem extract_list (z : Str) (i j : Nat) : (z.cps.extract i j).toList = ((tl z).drop i).take (j - i) := by
  unfold tl
  rw [Array.toList_extract, List.extract_eq_take_drop]
theorem sub_S (z : Str) (i j : Nat) : Builtin.Str.strSub z i j = SX.S (((tl z).drop i).take (j - i)) := by
  show (⟨z.cps.extract i j⟩ : Str) = _
  rw [← extract_list, SX.S, Array.toArray_toList]
theorem at_dash {z : Str} {i : Nat} : Builtin.Str.subAt z "-" i = true ↔ (tl z)[i]? = some 45 := by
  unfold Builtin.Str.subAt
  rw [beq_iff_eq]
  have e : (("-" : Str)).cps = #[45] := by decide +kernel
  have el : (("-" : Str)).length = 1 := by decide +kernel
  rw [e, el]
  have q : z.cps.extract i (i + 1) = #[45] ↔ ((tl z).drop i).take 1 = [45] := by
    rw [← Array.toList_inj, extract_list, Nat.add_sub_cancel_left]
  rw [q]
  cases h : (tl z).drop i with
  | nil =>
    have : (tl z).length ≤ i := List.drop_eq_nil_iff.mp h
    rw [List.getElem?_eq_none_iff.mpr this]
    simp
  | cons c r =>
    have hc : (tl z)[i]? = some c := by rw [← List.head?_drop, h]; rfl
    rw [hc]
    simp
theorem rsplit_dash {z : Str} {m e : List Nat} (h : tl z = m ++ 45 :: e) (hn : 45 ∉ e) : PySem.Txt.rsplitMax z "-" 1 = [SX.S m, SX.S e] := by
  have hl : z.length = m.length + 1 + e.length := by rw [len_tl, h, List.length_append, List.length_cons]; omega
  have el : (("-" : Str)).length = 1 := by decide +kernel
  have occ : Builtin.Str.occurrencesFromRight z "-" (limitOf z 1) = [m.length] := by
    show Builtin.Str.occurrencesFromRight z "-" 1 = [m.length]
    rw [StrLaws.occR_eq, occR_one z "-" el (j := m.length) (by omega) ⟨by omega, at_dash.mpr (by rw [h, List.getElem?_append_right (Nat.le_refl _), Nat.sub_self]; rfl)⟩ ?_ (z.length + 1) 0 (by omega) (by omega) (by omega)]
    · rfl
    · intro i h1 h2
      cases q : Builtin.Str.subAt z "-" i with
      | false => rfl
      | true =>
        have z1 := at_dash.mp q
        rw [h, List.getElem?_append_right (by omega), show i - m.length = (i - m.length - 1) + 1 by omega, List.getElem?_cons_succ] at z1
        exact absurd (List.mem_of_getElem? z1) hn
  have kind : (decide (z.length < ("-" : Str).length) || decide (Builtin.Str.strKind z < Builtin.Str.strKind "-")) = false := by
    rw [decide_eq_false (by rw [el]; omega), decide_eq_false]
    · rfl
    · have k1 : Builtin.Str.strKind "-" = 1 := by decide +kernel
      rw [k1]
      unfold Builtin.Str.strKind
      split
      · decide
      · split <;> decide
  unfold PySem.Txt.rsplitMax
  rw [if_neg (by rw [kind]; decide), occ, if_neg (by simp)]
  unfold Builtin.Str.partsBetween
  show [Builtin.Str.strSub z 0 m.length, Builtin.Str.strSub z (m.length + ("-" : Str).length) z.length] = _
  rw [sub_S, sub_S, el, h]
  have e1 : List.take (m.length - 0) (List.drop 0 (m ++ 45 :: e)) = m := by simp
  have e2 : List.take (z.length - (m.length + 1)) (List.drop (m.length + 1) (m ++ 45 :: e)) = e := by
    rw [show m ++ 45 :: e = (m ++ [45]) ++ e by simp, List.drop_left' (by simp)]
    exact List.take_of_length_le (by omega)
  rw [e1, e2]
/-! ### made names taken apart -/
abbrev Ap : Type := List Nat × Nat × What
def isR : Option Ap → Bool
  | some (_, c, _) => c == 114
  | none => false
def apartN : Nat → List Nat → Option Ap
  | 0, _ => none
  | n + 1, l => if 22 < l.length then none else match lastDash l with
    | some (m, c :: r) => if c ∈ letters4 then (match partF c r with
      | some w => if (userL m || (c == 115 && isR (apartN n m))) = true then some (m, c, w) else none
      | none => none) else none
    | _ => none
def makerN (n : Nat) (m : List Nat) (c : Nat) : Bool := userL m || (c == 115 && isR (apartN n m))
theorem apart_fuel : ∀ (n : Nat) (l : List Nat), l.length < n → apartN n l = apartN (n + 1) l
  | 0, _, h => by omega
  | n + 1, l, h => by
    unfold apartN
    by_cases c : 22 < l.length
    · rw [if_pos c, if_pos c]
    · rw [if_neg c, if_neg c]
      split
      · rename_i m c' r e
        have hd := (dash_some e).1
        have hl := congrArg List.length hd
        rw [List.length_append, List.length_cons, List.length_cons] at hl
        rw [apart_fuel n m (by omega)]
      · rfl
theorem apart_up {l : List Nat} : ∀ {n k : Nat}, l.length < n → apartN (n + k) l = apartN n l
  | n, 0, _ => rfl
  | n, k + 1, h => by
    rw [← Nat.add_assoc, ← apart_fuel (n + k) l (by omega), apart_up h]
theorem apart_long {l : List Nat} {n : Nat} (h : 22 < l.length) : apartN n l = none := by
  cases n with
  | zero => rfl
  | succ n => unfold apartN; rw [if_pos h]
/-- a made name taken apart -/
def apartL (l : List Nat) : Option Ap := apartN 24 l
theorem apart_eq {l : List Nat} {n : Nat} (h : l.length < n ∨ 22 < l.length) (hn : n ≤ 24) : apartN n l = apartL l := by
  unfold apartL
  rcases h with h | h
  · rw [show 24 = n + (24 - n) by omega, apart_up h]
  · rw [apart_long h, apart_long h]
def makerL (m : List Nat) (c : Nat) : Bool := userL m || (c == 115 && isR (apartL m))
def apartV : V → Option Ap
  | .str z => apartL (tl z)
  | _ => none
def makerV : V → Nat → Bool
  | .str z, c => makerL (tl z) c
  | _, _ => false
def ApR (H : Hp) (v : V) : Option Ap → Prop
  | none => v = .non
  | some (m, c, w) => ∃ p, v = .ref p ∧ H p = some (.tup [.str (SX.S m), .str (SX.S [c]), w.v])
/-- short enough for n turns -/
def Trn (n : Nat) (x : V) : Prop := ∀ z, x = .str z → z.length < n ∨ 22 < z.length
def sp_apart (n : Nat) (K : PySem.W.Frag) : Sp := fun vs H Q _ => ∃ (x : V), vs = [x] ∧ Vl H x ∧ Shrt x ∧ Trn n x ∧ (0 < n ∧ n ≤ 24) ∧ ∀ v H', Same H H' → ApR H' v (apartV x) → Q v H'
def sp_is_maker (n : Nat) (K : PySem.W.Frag) : Sp := fun vs H Q _ => ∃ (x : V) (c : Nat), vs = [x, .str (SX.S [c])] ∧ Vl H x ∧ Shrt x ∧ Trn n x ∧ (0 < n ∧ n ≤ 24) ∧ ∀ H', Same H H' → Q (.bl (makerV x c)) H'
theorem Vl.same {H H' : Hp} {x : V} (h : Vl H x) (s : Same H H') : Vl H' x := by
  rcases h with h | ⟨a, e, ⟨xs, g⟩ | ⟨xs, g⟩ | ⟨xs, g⟩⟩
  · exact .inl h
  · exact .inr ⟨a, e, .inl ⟨xs, s _ _ g⟩⟩
  · exact .inr ⟨a, e, .inr (.inl ⟨xs, s _ _ g⟩)⟩
  · exact .inr ⟨a, e, .inr (.inr ⟨xs, s _ _ g⟩)⟩
theorem isS_str {x : V} (h : isS x = true) : ∃ z, x = .str z := by cases x <;> first | exact ⟨_, rfl⟩ | cases h
theorem tl_s : tl (Str.ofString "s") = [115] := by decide +kernel
theorem tl_r : tl (Str.ofString "r") = [114] := by decide +kernel
theorem one_ne {c d : Nat} (h : c ≠ d) {t : Str} (ht : tl t = [d]) : V.str (SX.S [c]) ≠ V.str t := fun q => h (by
  have e := congrArg tl (V.str.inj q)
  rw [ht] at e
  exact List.head_eq_of_cons_eq e)
theorem one_eq {d : Nat} {t : Str} (ht : tl t = [d]) : SX.S [d] = t := by rw [← ht, S_tl]
theorem Same.trans' {H H1 H2 : Hp} (a : Same H H1) (b : Same H1 H2) : Same H H2 := fun x o h => b x o (a x o h)
theorem ok_is_maker {P : Program} {w : World} {K : PySem.W.Frag} {mg : Str → Option Value} {base : Heap} {fd : FuncData} (T : Txt K mg w) (F : FnP K "is_maker" s_is_maker [] fd) {n : Nat} (IH : ∀ {fd : FuncData}, FnP K "apart" s_apart [] fd → FnOk P w K mg base CX0 (2 * n + 3) (He.ga K "apart") fd ps_apart (sp_apart n K)) : FnOk P w K mg base CX0 (2 * n + 4) (He.ga K "is_maker") fd ps_is_maker (sp_is_maker n K) := by
  obtain ⟨fd_is_user_name, F_is_user_name⟩ := T.d_is_user_name
  have G_is_user_name := ok_is_user_name (P := P) (w := w) (base := base) T F_is_user_name
  have k_is_user_name := F_is_user_name.kp
  have b_is_user_name := bi_is_user_name F_is_user_name
  obtain ⟨fd_apart, F_apart⟩ := T.d_apart
  have G_apart := IH F_apart
  have k_apart := F_apart.kp
  have b_apart := bi_apart F_apart
  refine F.ok sc_is_maker (fun vs H Q E h => ?len) (fun cdv A outer s H vs Q E hr h => ?body)
  case len => obtain ⟨x, c, rfl, hv, hs, ht, hn, k⟩ := h; rfl
  case body =>
  obtain ⟨x, c, rfl, hv, hs, ht, hn, k⟩ := h
  have hu := hu_of hr
  refine ⟨_, PSs.nox (pss_cons (ps_if (pt_val (pe_call G_is_user_name (hr.mono (by first | decide | omega)) rfl T.g_is_user_name k_is_user_name b_is_user_name .nil pass0 (pa_cons (pv 0) pa_nil))) (pss_one (ps_ret pe_bl)) pss_nil)
    (pss_cons (ps_if (pt_cmpR op_ne (pv 1) pe_str (nomark _)) (pss_one (ps_ret pe_bl)) pss_nil)
    (pss_cons (ps_set (i := 2) sc_is_maker.nd rfl (Or.inl rfl) (pe_call G_apart (hr.mono (by first | decide | omega)) rfl T.g_apart k_apart b_apart .nil pass0 (pa_cons (pv 0) pa_nil)))
    (pss_one (ps_ret (pe_and (pe_cmpR op_notN (pv 2) pe_non (nomark _)) (pe_one (pe_cmpR op_eq (pe_ix ix_tup (pv 2) pe_int (fun _ _ => rfl)) pe_str (nomark _))))))))), ?_⟩
  refine ⟨_, rfl, x, rfl, hv, hs, fun H1 S1 => ⟨_, rfl, ?_⟩⟩
  by_cases hu : userV x = true
  · rw [hu]
    refine iteT ?_
    have q := k H1 S1
    have e : makerV x c = true := by
      cases x with
      | str z => show (userL (tl z) || _) = true; rw [show userL (tl z) = true from hu]; rfl
      | _ => cases hu
    rw [e] at q
    exact q
  rw [Bool.not_eq_true _ |>.mp hu]
  refine iteF ⟨_, rfl, rfl, _, rfl, ?_⟩
  by_cases hc : c = 115
  · subst hc
    rw [decide_eq_true (congrArg V.str (one_eq tl_s))]
    refine iteF ⟨_, rfl, x, rfl, hv.same S1, hs, ht, hn, fun v H2 S2 R2 => ?_⟩
    have q := k H2 (Same.trans' S1 S2)
    have e : makerV x 115 = isR (apartV x) := by
      cases x with
      | str z => show (userL (tl z) || (true && isR (apartL (tl z)))) = _; rw [show userL (tl z) = false from Bool.not_eq_true _ |>.mp hu]; rfl
      | _ => rfl
    rw [e] at q
    refine ⟨_, rfl, rfl, _, rfl, ?_⟩
    generalize apartV x = ap at R2 q
    match ap, R2, q with
    | none, R2, q =>
      cases R2
      exact iteF q
    | some (m, c, w), ⟨p, ev, g⟩, q =>
      cases ev
      refine iteT ⟨_, rfl, p, _, 1, _, rfl, rfl, SqT.of g, rfl, rfl, ?_⟩
      have q : Q (.bl (c == 114)) H2 := q
      by_cases hc : c = 114
      · subst hc
        rw [decide_eq_true (congrArg V.str (one_eq tl_r))]
        exact q
      · rw [decide_eq_false (one_ne hc tl_r)]
        rw [beq_false_of_ne hc] at q
        exact q
  · rw [decide_eq_false (one_ne hc tl_s)]
    refine iteT ?_
    have q := k H1 S1
    have e : makerV x c = false := by
      cases x with
      | str z => show (userL (tl z) || (c == 115 && _)) = false; rw [show userL (tl z) = false from Bool.not_eq_true _ |>.mp hu, beq_false_of_ne hc]; rfl
      | _ => rfl
    rw [e] at q
    exact q
theorem tl_d : tl (Str.ofString "-") = [45] := by decide +kernel
theorem one_v {d : Nat} {t : Str} (ht : tl t = [d]) : V.str t = V.str ⟨#[d]⟩ := by
  rw [← one_eq ht]
theorem in4_yes {c : Nat} (h : c ∈ letters4) : inV (.str (SX.S [c])) [V.str "s", .str "j", .str "n", .str "r"] = true := by
  simp only [letters4, List.mem_cons, List.not_mem_nil, or_false] at h
  rcases h with rfl | rfl | rfl | rfl <;> decide +kernel
theorem in4_no {c : Nat} (h : c ∉ letters4) : inV (.str (SX.S [c])) [V.str "s", .str "j", .str "n", .str "r"] = false := by
  have key : ∀ {d : Nat} {t : Str}, tl t = [d] → d ∈ letters4 → eqV (.str t) (.str (SX.S [c])) = false := fun {d t} ht hd => by
    show (t == SX.S [c]) = false
    exact beq_false_of_ne fun e => one_ne (c := c) (d := d) (fun q => h (q ▸ hd)) ht (congrArg V.str e.symm)
  show (eqV _ _ || (eqV _ _ || (eqV _ _ || (eqV _ _ || false)))) = false
  rw [key tl_s (by decide), key (d := 106) (by decide +kernel) (by decide), key (d := 110) (by decide +kernel) (by decide), key tl_r (by decide)]
  rfl
theorem ok_apart {P : Program} {w : World} {K : PySem.W.Frag} {mg : Str → Option Value} {base : Heap} {fd : FuncData} (T : Txt K mg w) (F : FnP K "apart" s_apart [] fd) {n : Nat} (IH : ∀ {fd : FuncData}, FnP K "is_maker" s_is_maker [] fd → FnOk P w K mg base CX0 (2 * n + 4) (He.ga K "is_maker") fd ps_is_maker (sp_is_maker n K)) : FnOk P w K mg base CX0 (2 * (n + 1) + 3) (He.ga K "apart") fd ps_apart (sp_apart (n + 1) K) := by
  obtain ⟨fd_part_of, F_part_of⟩ := T.d_part_of
  have G_part_of := ok_part_of (P := P) (w := w) (base := base) T F_part_of
  have k_part_of := F_part_of.kp
  have b_part_of := bi_part_of F_part_of
  obtain ⟨fd_is_maker, F_is_maker⟩ := T.d_is_maker
  have G_is_maker := IH F_is_maker
  have k_is_maker := F_is_maker.kp
  have b_is_maker := bi_is_maker F_is_maker
  obtain ⟨t_MOST_MADE, h_MOST_MADE⟩ := T.c_MOST_MADE
  refine F.ok sc_apart (fun vs H Q E h => ?len) (fun cdv A outer s H vs Q E hr h => ?body)
  case len => obtain ⟨x, rfl, hv, hs, ht, hn, k⟩ := h; rfl
  case body =>
  obtain ⟨x, rfl, hv, hs, ht, hn, k⟩ := h
  have hu := hu_of hr
  refine ⟨_, PSs.nox (pss_cons (ps_if (PW.pt (pw_or (pt_not (pt_val (pe_callB call_isi (by rfl) T.n_isinstance (by decide +kernel) (pa_cons (pv 0) (pa_cons (pe_bltn (v := .ty "str") rfl T.n_str (by decide +kernel) rfl) pa_nil))))) (pw_or (pt_cmpR op_gt (pe_callB call_len_str (by rfl) T.n_len (by decide +kernel) (pa_cons (pv 0) pa_nil)) (pe_glob (v := .int 22) rfl h_MOST_MADE ⟨_, rfl⟩) (nomark _)) (pw_or1 (pt_cmpR op_notIn_sign pe_str (pv 0) (by rfl)))))) (pss_one (ps_ret pe_non)) pss_nil)
    (pss_cons (ps_asg (pe_bm PySem.F.plainAttrs_str PySem.F.slot_str_rsplit PySem.F.type_str_rsplit mt_rsplitMax (pv 0) (pa_cons pe_str (pa_cons pe_int pa_nil))) (pg_lst rfl (pgs_cons (pg_name (i := 1) sc_apart.nd rfl (Or.inl rfl)) (pgs_cons (pg_name (i := 2) sc_apart.nd rfl (Or.inl rfl)) pgs_nil))))
    (pss_cons (ps_if (pt_cmpR op_notIn_seq (pe_slice sl_str (pv 2) po_none (po_some pe_int)) (pe_tup (pa_cons pe_str (pa_cons pe_str (pa_cons pe_str (pa_cons pe_str pa_nil))))) (by rfl)) (pss_one (ps_ret pe_non)) pss_nil)
    (pss_cons (ps_set (i := 3) sc_apart.nd rfl (Or.inl rfl) (pe_call G_part_of (hr.mono (by first | decide | omega)) rfl T.g_part_of k_part_of b_part_of .nil pass0 (pa_cons (pe_ix ix_str (pv 2) pe_int (fun _ _ => rfl)) (pa_cons (pe_slice sl_str (pv 2) (po_some pe_int) po_none) pa_nil))))
    (pss_cons (ps_if (PW.pt (pw_or (pt_cmpR op_isN (pv 3) pe_non (nomark _)) (pw_or1 (pt_not (pt_val (pe_call G_is_maker (hr.mono (by first | decide | omega)) rfl T.g_is_maker k_is_maker b_is_maker .nil pass0 (pa_cons (pv 1) (pa_cons (pe_ix ix_str (pv 2) pe_int (fun _ _ => rfl)) pa_nil)))))))) (pss_one (ps_ret pe_non)) pss_nil)
    (pss_one (ps_ret (pe_tup (pa_cons (pv 1) (pa_cons (pe_ix ix_str (pv 2) pe_int (fun _ _ => rfl)) (pa_cons (pv 3) pa_nil))))))))))), ?_⟩
  obtain ⟨u, h1, h2⟩ := vl_str (K := K) hv
  have bad : ∀ H', Same H H' → apartV x = none → Q .non H' := fun H' S e => k .non H' S (by rw [e]; rfl)
  by_cases hx : isS x = true
  rotate_left
  · refine ⟨_, rfl, x, .ty "str", _, _, _, rfl, .ty "str", h1, h2, _, rfl, ?_⟩
    rw [Bool.not_eq_true _ |>.mp hx]
    exact iteT (iteT (bad H (Same.refl H) (by cases x <;> first | rfl | exact absurd rfl hx)))
  obtain ⟨z, rfl⟩ := isS_str hx
  have hz := hs z rfl
  have bad : ∀ H', Same H H' → apartL (tl z) = none → Q .non H' := bad
  refine ⟨_, rfl, .str z, .ty "str", _, _, _, rfl, .ty "str", h1, h2, _, rfl, iteF ?_⟩
  refine ⟨_, rfl, z, rfl, small5 hz, _, _, rfl, rfl, _, rfl, ?_⟩
  by_cases hl : (22 : Int) < (z.length : Int)
  · rw [decide_eq_true hl]
    exact iteT (iteT (bad H (Same.refl H) (apart_long (by rw [← len_tl]; omega))))
  rw [decide_eq_false hl]
  have hl2 : (tl z).length ≤ 22 := by rw [← len_tl]; omega
  have un : apartL (tl z) = apartN (n + 1) (tl z) := (apart_eq (by rw [← len_tl]; exact ht z rfl) hn.2).symm
  refine iteF ⟨_, rfl, 45, z, one_v tl_d, rfl, _, rfl, ?_⟩
  cases hd : lastDash (tl z) with
  | none =>
    rw [decide_eq_false (show ¬ 45 ∈ z.cps.toList from dash_none hd)]
    exact iteT (bad H (Same.refl H) (by rw [un]; unfold apartN; rw [if_neg (by omega), hd]))
  | some me =>
    obtain ⟨m, e⟩ := me
    obtain ⟨d1, d2⟩ := dash_some hd
    have dl := congrArg List.length d1
    rw [List.length_append, List.length_cons] at dl
    rw [decide_eq_true (show 45 ∈ z.cps.toList by show 45 ∈ tl z; rw [d1]; simp)]
    refine iteF ?_
    refine ⟨_, rfl, rfl, z, Str.ofString "-", 1, rfl, rfl, by decide +kernel, by decide, by decide, by rw [sizeLine_eq]; omega, fun p hp => ?_⟩
    rw [rsplit_dash d1 d2]
    refine ⟨p, _, rfl, SqL.of upd_same, rfl, _, _, rfl, _, _, rfl, rfl, ?_⟩
    have S1 := Same.new (u := .lst ([SX.S m, SX.S e].map V.str)) hp
    generalize upd H p (.lst ([SX.S m, SX.S e].map V.str)) = H1 at S1 ⊢
    refine ⟨_, rfl, _, rfl, _, rfl, small5 (by show e.toArray.size ≤ _; rw [List.size_toArray]; omega), smallN (by show 4 ≤ 1000; decide), fun pt hpt => ?_⟩
    rw [C8.cutS_slice, SX.slice_to (by decide)]
    refine ⟨pt, _, rfl, .inr (SqT.of upd_same), rfl, by decide +kernel, _, rfl, ?_⟩
    have S2 := Same.trans' S1 (Same.new (u := .tup [.str "s", .str "j", .str "n", .str "r"]) hpt)
    have cut1 : (1 : Int).toNat = 1 := rfl
    have none_ : (∀ m' c r, lastDash (tl z) = some (m', c :: r) → c ∈ letters4 → False) → apartL (tl z) = none := fun q => by
      rw [un]
      unfold apartN
      rw [if_neg (by omega)]
      split
      · rename_i m' c' r' eq'
        rw [if_neg (fun hc => q _ _ _ eq' hc)]
      · rfl
    match e, hd, d1, d2, dl with
    | [], hd, d1, d2, dl =>
      rw [show inV (.str (SX.S (List.take (1 : Int).toNat []))) [V.str "s", .str "j", .str "n", .str "r"] = false by decide +kernel]
      exact iteT (bad _ S2 (none_ fun m' c r q => by rw [hd] at q; cases q))
    | c :: r, hd, d1, d2, dl =>
      rw [show List.take (1 : Int).toNat (c :: r) = [c] from rfl]
      by_cases hc : c ∈ letters4
      rotate_left
      · rw [in4_no hc]
        exact iteT (bad _ S2 (none_ fun m' c' r' q hc' => by rw [hd] at q; cases q; exact hc hc'))
      rw [in4_yes hc]
      refine iteF ?_
      rw [List.length_cons] at dl
      have sl : (SX.S (c :: r)).length ≤ 100000 := by show (c :: r).toArray.size ≤ _; rw [List.size_toArray, List.length_cons]; omega
      have er : cutS (SX.S (c :: r)) (some 1) none = SX.S r := by rw [C8.cutS_slice, SX.slice_from (by decide)]; rfl
      refine ⟨_, rfl, SX.S (c :: r), 0, c, rfl, rfl, small5 sl, atI_nat (j := 0) rfl, _, rfl, _, rfl, SX.S (c :: r), rfl, small5 sl, ?_⟩
      refine ⟨c, cutS (SX.S (c :: r)) (some 1) none, rfl, hc, Nat.le_trans (cutS_length _ _ _) sl, fun H3 S3 => ?_⟩
      rw [er, tl_S]
      have S03 := Same.trans' S2 S3
      have un2 : apartL (tl z) = match partF c r with
        | some w => if makerN n m c = true then some (m, c, w) else none
        | none => none := by
        rw [un]
        unfold apartN
        rw [if_neg (by omega), hd]
        show (if c ∈ letters4 then _ else _) = _
        rw [if_pos hc]
        rfl
      have mk : makerN n m c = makerL m c := by
        unfold makerN makerL
        rw [apart_eq (by have h1 := ht z rfl; have h2 := len_tl z; omega) (by omega)]
      rw [mk] at un2
      cases hw : partF c r with
      | none =>
        rw [hw] at un2
        exact ⟨_, rfl, rfl, _, rfl, iteT (iteT (bad _ S03 un2))⟩
      | some w =>
        rw [hw] at un2
        have nv : w.v ≠ V.non := by cases w <;> exact fun q => by cases q
        refine ⟨_, rfl, rfl, _, rfl, ?_⟩
        rw [decide_eq_false (show ¬ (oWhat (some w)) = V.non from nv)]
        refine iteF ⟨_, rfl, _, rfl, SX.S (c :: r), 0, c, rfl, rfl, small5 sl, atI_nat (j := 0) rfl, ?_⟩
        refine ⟨.str (SX.S m), c, rfl, .inl True.intro, (fun z' e => by cases e; show m.toArray.size ≤ _; rw [List.size_toArray]; omega), (fun z' e => by cases e; left; show m.toArray.size < _; rw [List.size_toArray]; have h1 := ht z rfl; have h2 := len_tl z; omega), (by have h1 := ht z rfl; have h2 := len_tl z; omega), fun H4 S4 => ⟨_, rfl, ?_⟩⟩
        have S04 := Same.trans' S03 S4
        by_cases hm : makerL m c = true
        · rw [hm] at un2
          rw [show makerV (V.str (SX.S m)) c = true from hm]
          refine iteF ⟨_, rfl, _, rfl, SX.S (c :: r), 0, c, rfl, rfl, small5 sl, atI_nat (j := 0) rfl, _, rfl, smallN (by show 3 ≤ 1000; decide), fun p5 q5 => ?_⟩
          exact k _ _ (Same.trans' S04 (Same.new q5)) (by show ApR _ _ (apartL (tl z)); rw [un2]; exact ⟨p5, rfl, upd_same⟩)
        · rw [Bool.not_eq_true _ |>.mp hm] at un2
          rw [show makerV (V.str (SX.S m)) c = false from Bool.not_eq_true _ |>.mp hm]
          exact iteT (bad _ S04 un2)
/-- both, by turns -/
theorem ok_both {P : Program} {w : World} {K : PySem.W.Frag} {mg : Str → Option Value} {base : Heap} (T : Txt K mg w) : ∀ n : Nat,
    (∀ {fd : FuncData}, FnP K "apart" s_apart [] fd → FnOk P w K mg base CX0 (2 * n + 3) (He.ga K "apart") fd ps_apart (sp_apart n K)) ∧
    (∀ {fd : FuncData}, FnP K "is_maker" s_is_maker [] fd → FnOk P w K mg base CX0 (2 * n + 4) (He.ga K "is_maker") fd ps_is_maker (sp_is_maker n K))
  | 0 => by
    have no1 : ∀ {vs : List V} {H : Hp} {Q : VK} {E : XK}, sp_apart 0 K vs H Q E → False := fun h => by
      obtain ⟨_, _, _, _, _, ⟨h, _⟩, _⟩ := h
      exact absurd h (by decide)
    have no2 : ∀ {vs : List V} {H : Hp} {Q : VK} {E : XK}, sp_is_maker 0 K vs H Q E → False := fun h => by
      obtain ⟨_, _, _, _, _, _, ⟨h, _⟩, _⟩ := h
      exact absurd h (by decide)
    exact ⟨fun _ => ⟨fun _ _ _ _ h => (no1 h).elim, fun _ _ _ _ _ _ _ _ _ _ _ _ _ h => (no1 h).elim⟩, fun _ => ⟨fun _ _ _ _ h => (no2 h).elim, fun _ _ _ _ _ _ _ _ _ _ _ _ _ h => (no2 h).elim⟩⟩
  | n + 1 => by
    obtain ⟨_, h2⟩ := ok_both T n
    have h3 : ∀ {fd : FuncData}, FnP K "apart" s_apart [] fd → FnOk P w K mg base CX0 (2 * (n + 1) + 3) (He.ga K "apart") fd ps_apart (sp_apart (n + 1) K) := fun F => ok_apart T F h2
    exact ⟨h3, fun F => ok_is_maker T F h3⟩
theorem ok_apartZ {P : Program} {w : World} {K : PySem.W.Frag} {mg : Str → Option Value} {base : Heap} {fd : FuncData} (T : Txt K mg w) (F : FnP K "apart" s_apart [] fd) : FnOk P w K mg base CX0 51 (He.ga K "apart") fd ps_apart (sp_apart 24 K) := (ok_both T 24).1 F
theorem ok_is_makerZ {P : Program} {w : World} {K : PySem.W.Frag} {mg : Str → Option Value} {base : Heap} {fd : FuncData} (T : Txt K mg w) (F : FnP K "is_maker" s_is_maker [] fd) : FnOk P w K mg base CX0 52 (He.ga K "is_maker") fd ps_is_maker (sp_is_maker 24 K) := (ok_both T 24).2 F
theorem trn24 (x : V) : Trn 24 x := fun z _ => by omega
def nameV (x : V) : Bool := userV x || (apartV x).isSome
def sp_is_name (K : PySem.W.Frag) : Sp := fun vs H Q _ => ∃ (x : V), vs = [x] ∧ Vl H x ∧ Shrt x ∧ ∀ H', Same H H' → Q (.bl (nameV x)) H'
theorem ok_is_name {P : Program} {w : World} {K : PySem.W.Frag} {mg : Str → Option Value} {base : Heap} {fd : FuncData} (T : Txt K mg w) (F : FnP K "is_name" s_is_name [] fd) : FnOk P w K mg base CX0 52 (He.ga K "is_name") fd ps_is_name (sp_is_name K) := by
  obtain ⟨fd_is_user_name, F_is_user_name⟩ := T.d_is_user_name
  have G_is_user_name := ok_is_user_name (P := P) (w := w) (base := base) T F_is_user_name
  have k_is_user_name := F_is_user_name.kp
  have b_is_user_name := bi_is_user_name F_is_user_name
  obtain ⟨fd_apart, F_apart⟩ := T.d_apart
  have G_apart := ok_apartZ (P := P) (w := w) (base := base) T F_apart
  have k_apart := F_apart.kp
  have b_apart := bi_apart F_apart
  refine F.ok sc_is_name (fun vs H Q E h => ?len) (fun cdv A outer s H vs Q E hr h => ?body)
  case len => obtain ⟨x, rfl, hv, hs, k⟩ := h; rfl
  case body =>
  obtain ⟨x, rfl, hv, hs, k⟩ := h
  have hu := hu_of hr
  refine ⟨_, PSs.nox (pss_one (ps_ret (pe_or (pe_call G_is_user_name (hr.mono (by first | decide | omega)) rfl T.g_is_user_name k_is_user_name b_is_user_name .nil pass0 (pa_cons (pv 0) pa_nil)) (pe_one (pe_cmpR op_notN (pe_call G_apart (hr.mono (by first | decide | omega)) rfl T.g_apart k_apart b_apart .nil pass0 (pa_cons (pv 0) pa_nil)) pe_non (nomark _)))))), ?_⟩
  refine ⟨_, rfl, x, rfl, hv, hs, fun H1 S1 => ⟨_, rfl, ?_⟩⟩
  by_cases hu : userV x = true
  · rw [hu]
    have q := k H1 S1
    unfold nameV at q
    rw [hu] at q
    exact iteT q
  · rw [Bool.not_eq_true _ |>.mp hu]
    refine iteF ⟨_, rfl, x, rfl, hv.same S1, hs, trn24 x, ⟨by decide, by decide⟩, fun v H2 S2 R2 => ⟨rfl, ?_⟩⟩
    have q := k H2 (Same.trans' S1 S2)
    unfold nameV at q
    rw [Bool.not_eq_true _ |>.mp hu, Bool.false_or] at q
    generalize apartV x = ap at R2 q
    match ap, R2, q with
    | none, R2, q => cases R2; exact q
    | some (m, c, w), ⟨p, ev, g⟩, q => cases ev; exact q

/-! ### names made, names taken apart -/
abbrev bnF (v : V) : List (Str × V) := [("name", v), ("why", .str "name")]
def sp_taken_apart (K : PySem.W.Frag) : Sp := fun vs H Q E => ∃ (x : V), vs = [x] ∧ Vl H x ∧ Shrt x ∧ (nameV x = false → Raised (cBN K) H E (bnF x)) ∧ (nameV x = true → ∀ v H', Same H H' → (userV x = true → v = .non) → (userV x = false → ApR H' v (apartV x)) → Q v H')
theorem mk_raise {K : PySem.W.Frag} {C : Addr} {H : Hp} {E : XK} {ta : TA} {σ : L2.St} {x : V} (h : Raised (cBN K) H E (bnF x)) (ht : ∀ R : List V → Hp → Prop, R [x] H → ta σ H R) : tMkO (cBN K) (sp_BNinit K) [] ta σ H fun cls d H'' => E cls d H'' :=
  ht _ ⟨by show 1 ≤ 1000; decide, fun a ha => ⟨a, x, rfl, upd_same, fun dx H2 hd ne m => raised_made h ha hd m⟩⟩
theorem ok_taken_apart {P : Program} {w : World} {K : PySem.W.Frag} {mg : Str → Option Value} {base : Heap} {fd : FuncData} (T : Txt K mg w) (F : FnP K "taken_apart" s_taken_apart [] fd) : FnOk P w K mg base (L2.CX P w) 53 (He.ga K "taken_apart") fd ps_taken_apart (sp_taken_apart K) := by
  obtain ⟨fd_is_user_name, F_is_user_name⟩ := T.d_is_user_name
  have G_is_user_name := ok_is_user_name (P := P) (w := w) (base := base) T F_is_user_name
  have k_is_user_name := F_is_user_name.kp
  have b_is_user_name := bi_is_user_name F_is_user_name
  obtain ⟨fd_apart, F_apart⟩ := T.d_apart
  have G_apart := ok_apartZ (P := P) (w := w) (base := base) T F_apart
  have k_apart := F_apart.kp
  have b_apart := bi_apart F_apart
  have O := exT T.ex
  obtain ⟨fd_BNinit, F_BNinit⟩ := T.d_BadName___init__
  have G_BNinit := ok_BNinit (P := P) (w := w) (base := base) T F_BNinit
  have b_BNinit := bi_BNinit F_BNinit
  refine F.ok sc_taken_apart (fun vs H Q E h => ?len) (fun cdv A outer s H vs Q E hr h => ?body)
  case len => obtain ⟨x, rfl, hv, hs, kE, k⟩ := h; rfl
  case body =>
  obtain ⟨x, rfl, hv, hs, kE, k⟩ := h
  have hu := hu_of hr
  refine ⟨_, (pss_cons (ps_if (pt_val (pe_call G_is_user_name (hr.mono (by first | decide | omega)) rfl T.g_is_user_name k_is_user_name b_is_user_name .nil pass0 (pa_cons (pv 0) pa_nil))) (pss_one (ps_ret pe_non)) pss_nil)
    (pss_cons (ps_set (i := 1) sc_taken_apart.nd rfl (Or.inl rfl) (pe_call G_apart (hr.mono (by first | decide | omega)) rfl T.g_apart k_apart b_apart .nil pass0 (pa_cons (pv 0) pa_nil)))
    (pss_cons (ps_if (pt_cmpR op_isN (pv 1) pe_non (nomark _)) (pss_one (ps_raise rfl (takes_of rfl rfl rfl rfl) (pmk_oex O.oex_BadName O.ini_BadName O.tin_BadName G_BNinit (hr.mono (by first | decide | omega)) b_BNinit .nil pass0 rfl T.g_BadName (pa_cons (pv 0) pa_nil)))) pss_nil)
    (pss_one (ps_ret (pv 1)))))), ?_⟩
  refine ⟨_, rfl, x, rfl, hv, hs, fun H1 S1 => ⟨_, rfl, ?_⟩⟩
  by_cases hu : userV x = true
  · rw [hu]
    exact iteT (k (by unfold nameV; rw [hu]; rfl) _ _ S1 (fun _ => rfl) fun z => by rw [hu] at z; cases z)
  · have hu := Bool.not_eq_true _ |>.mp hu
    rw [hu]
    refine iteF ⟨_, rfl, x, rfl, hv.same S1, hs, trn24 x, ⟨by decide, by decide⟩, fun v H2 S2 R2 => ⟨_, rfl, rfl, _, rfl, ?_⟩⟩
    have S02 := Same.trans' S1 S2
    cases e : apartV x with
    | none =>
      rw [e] at R2
      cases R2
      refine iteT (mk_raise (C := cBN K) ((kE (by unfold nameV; rw [hu, e]; rfl)).mono S02) fun R h => ⟨_, rfl, h⟩)
    | some ap =>
      rw [e] at R2
      have q := k (by unfold nameV; rw [hu, e]; rfl) v H2 S02 (fun z => by rw [hu] at z; cases z) (fun _ => by rw [e]; exact R2)
      obtain ⟨m, c, w⟩ := ap
      obtain ⟨p, rfl, g⟩ := R2
      exact iteF ⟨_, rfl, q⟩
def letL : List Nat → Option Nat
  | [c] => if c ∈ letters4 then some c else none
  | _ => none
def letO : V → Option Nat
  | .str z => letL (tl z)
  | _ => none
def whatT : What → List Nat
  | .t l => l
  | .n k => TL.numL k
def madeT (m : List Nat) (c : Nat) (w : What) : List Nat := m ++ 45 :: c :: whatT w
def hiOf (c : Nat) : Nat := if c = 114 then 999999 else 99
def whatO (c : Nat) : V → Option What
  | .str z => if c = 110 ∧ userB z = true then some (.t (tl z)) else none
  | .int i => if c ≠ 110 ∧ 0 ≤ i ∧ i ≤ (hiOf c : Int) then some (.n i.toNat) else none
  | _ => none
theorem whatO_str (c : Nat) (z : Str) : whatO c (.str z) = if c = 110 ∧ userB z = true then some (.t (tl z)) else none := rfl
theorem whatO_int (c : Nat) (i : Int) : whatO c (.int i) = if c ≠ 110 ∧ 0 ≤ i ∧ i ≤ (hiOf c : Int) then some (.n i.toNat) else none := rfl
/-- the text that is made, or what is refused -/
def madeO (x y t : V) : Sum V (List Nat) := match letO y with
  | none => .inl y
  | some c => if makerV x c = true then (match x, whatO c t with
    | .str z, some w => .inr (madeT (tl z) c w)
    | _, _ => .inl t) else .inl x
def sp_made_name (K : PySem.W.Frag) : Sp := fun vs H Q E => ∃ (x y t : V), vs = [x, y, t] ∧ Vl H x ∧ Vl H y ∧ Vl H t ∧ Shrt x ∧ Shrt y ∧ Shrt t ∧
  (∀ v, madeO x y t = .inl v → Raised (cBN K) H E (bnF v)) ∧ ∀ l, madeO x y t = .inr l → ∀ H', Same H H' → Q (.str (SX.S l)) H'
theorem len_app (x y : Str) : (x ++ y).length = x.length + y.length := strLen_append x y
theorem letL_one (d : Nat) : letL [d] = if d ∈ letters4 then some d else none := rfl
theorem letL_some {l : List Nat} {c : Nat} (h : letL l = some c) : l = [c] ∧ c ∈ letters4 := by
  match l, h with
  | [d], h =>
    rw [letL_one] at h
    by_cases hd : d ∈ letters4
    · rw [if_pos hd] at h
      cases h
      exact ⟨rfl, hd⟩
    · rw [if_neg hd] at h
      cases h
theorem let_some {y : V} {c : Nat} (h : letO y = some c) : y = .str (SX.S [c]) ∧ c ∈ letters4 := by
  cases y with
  | str z =>
    obtain ⟨e, hc⟩ := letL_some (show letL (tl z) = some c from h)
    exact ⟨by rw [← e, S_tl], hc⟩
  | _ => cases h
theorem in4_none {z : Str} (h : letO (.str z) = none) : inV (.str z) [V.str "s", .str "j", .str "n", .str "r"] = false := by
  have key : ∀ {d : Nat} {t : Str}, tl t = [d] → d ∈ letters4 → eqV (.str t) (.str z) = false := fun {d t} ht hd => by
    show (t == z) = false
    refine beq_false_of_ne fun e => ?_
    have h : letL (tl z) = none := h
    rw [← e, ht] at h
    rw [letL_one, if_pos hd] at h
    cases h
  show (eqV _ _ || (eqV _ _ || (eqV _ _ || (eqV _ _ || false)))) = false
  rw [key tl_s (by decide), key (d := 106) (by decide +kernel) (by decide), key (d := 110) (by decide +kernel) (by decide), key tl_r (by decide)]
  rfl
theorem tl_n : tl (Str.ofString "n") = [110] := by decide +kernel
theorem ok_made_name {P : Program} {w : World} {K : PySem.W.Frag} {mg : Str → Option Value} {base : Heap} {fd : FuncData} (T : Txt K mg w) (F : FnP K "made_name" s_made_name [] fd) : FnOk P w K mg base (L2.CX P w) 54 (He.ga K "made_name") fd ps_made_name (sp_made_name K) := by
  obtain ⟨fd_is_maker, F_is_maker⟩ := T.d_is_maker
  have G_is_maker := ok_is_makerZ (P := P) (w := w) (base := base) T F_is_maker
  have k_is_maker := F_is_maker.kp
  have b_is_maker := bi_is_maker F_is_maker
  obtain ⟨fd_is_user_name, F_is_user_name⟩ := T.d_is_user_name
  have G_is_user_name := ok_is_user_name (P := P) (w := w) (base := base) T F_is_user_name
  have k_is_user_name := F_is_user_name.kp
  have b_is_user_name := bi_is_user_name F_is_user_name
  obtain ⟨fd_is_integer, F_is_integer⟩ := T.d_is_integer
  have G_is_integer := ok_is_integer (P := P) (w := w) (base := base) T F_is_integer
  have k_is_integer := F_is_integer.kp
  have b_is_integer := bi_is_integer F_is_integer
  have O := exT T.ex
  obtain ⟨fd_BNinit, F_BNinit⟩ := T.d_BadName___init__
  have G_BNinit := ok_BNinit (P := P) (w := w) (base := base) T F_BNinit
  have b_BNinit := bi_BNinit F_BNinit
  refine F.ok sc_made_name (fun vs H Q E h => ?len) (fun cdv A outer s H vs Q E hr h => ?body)
  case len => obtain ⟨x, y, t, rfl, hx, hy, ht, sx, sy, st, kE, k⟩ := h; rfl
  case body =>
  obtain ⟨x, y, t, rfl, hx, hy, ht, sx, sy, st, kE, k⟩ := h
  have hu := hu_of hr
  refine ⟨_, (pss_cons (ps_if (PW.pt (pw_or (pt_not (pt_val (pe_callB call_isi (by rfl) T.n_isinstance (by decide +kernel) (pa_cons (pv 1) (pa_cons (pe_bltn (v := .ty "str") rfl T.n_str (by decide +kernel) rfl) pa_nil))))) (pw_or1 (pt_cmpR op_notIn_seq (pv 1) (pe_tup (pa_cons pe_str (pa_cons pe_str (pa_cons pe_str (pa_cons pe_str pa_nil))))) (by rfl))))) (pss_one (ps_raise rfl (takes_of rfl rfl rfl rfl) (pmk_oex O.oex_BadName O.ini_BadName O.tin_BadName G_BNinit (hr.mono (by first | decide | omega)) b_BNinit .nil pass0 rfl T.g_BadName (pa_cons (pv 1) pa_nil)))) pss_nil)
    (pss_cons (ps_if (pt_not (pt_val (pe_call G_is_maker (hr.mono (by first | decide | omega)) rfl T.g_is_maker k_is_maker b_is_maker .nil pass0 (pa_cons (pv 0) (pa_cons (pv 1) pa_nil))))) (pss_one (ps_raise rfl (takes_of rfl rfl rfl rfl) (pmk_oex O.oex_BadName O.ini_BadName O.tin_BadName G_BNinit (hr.mono (by first | decide | omega)) b_BNinit .nil pass0 rfl T.g_BadName (pa_cons (pv 0) pa_nil)))) pss_nil)
    (pss_cons (ps_if (PW.pt (pw_and (pt_cmpR op_eq (pv 1) pe_str (nomark _)) (pw_and1 (pt_not (pt_val (pe_call G_is_user_name (hr.mono (by first | decide | omega)) rfl T.g_is_user_name k_is_user_name b_is_user_name .nil pass0 (pa_cons (pv 2) pa_nil))))))) (pss_one (ps_raise rfl (takes_of rfl rfl rfl rfl) (pmk_oex O.oex_BadName O.ini_BadName O.tin_BadName G_BNinit (hr.mono (by first | decide | omega)) b_BNinit .nil pass0 rfl T.g_BadName (pa_cons (pv 2) pa_nil)))) pss_nil)
    (pss_cons (ps_if (PW.pt (pw_and (pt_cmpR op_ne (pv 1) pe_str (nomark _)) (pw_and1 (pt_not (PW.pt (pw_and (pt_val (pe_call G_is_integer (hr.mono (by first | decide | omega)) rfl T.g_is_integer k_is_integer b_is_integer .nil pass0 (pa_cons (pv 2) pa_nil))) (pw_and1 (pt_chain op_le op_le pe_int (pv 2) (pe_ix ix_kdict (pe_glob (v := .ref (He.ga K "HIGHEST")) rfl T.g_HIGHEST rfl) (pv 1) (fun _ _ => rfl)))))))))) (pss_one (ps_raise rfl (takes_of rfl rfl rfl rfl) (pmk_oex O.oex_BadName O.ini_BadName O.tin_BadName G_BNinit (hr.mono (by first | decide | omega)) b_BNinit .nil pass0 rfl T.g_BadName (pa_cons (pv 2) pa_nil)))) pss_nil)
    (pss_one (ps_ret (pe_joined (.cons (pe_fmt (pv 0)) (.cons pe_str (.cons (pe_fmt (pv 1)) (.cons (pe_fmt (pv 2)) .nil))))))))))), ?_⟩
  obtain ⟨u, h1, h2⟩ := vl_str (K := K) hy
  refine ⟨_, rfl, y, .ty "str", _, _, _, rfl, .ty "str", h1, h2, _, rfl, ?_⟩
  by_cases hs : isS y = true
  rotate_left
  · rw [Bool.not_eq_true _ |>.mp hs]
    refine iteT (iteT (mk_raise (C := cBN K) (kE y ?_) fun R h => ⟨_, rfl, h⟩))
    have e : letO y = none := by cases y <;> first | rfl | exact absurd rfl hs
    unfold madeO
    rw [e]
  obtain ⟨z, rfl⟩ := isS_str hs
  refine iteF ⟨_, rfl, smallN (by show 4 ≤ 1000; decide), fun p1 q1 => ?_⟩
  have S1 := Same.new (u := .tup [.str "s", .str "j", .str "n", .str "r"]) q1
  refine ⟨p1, _, rfl, .inr (SqT.of upd_same), rfl, by decide +kernel, _, rfl, ?_⟩
  generalize upd H p1 (.tup [.str "s", .str "j", .str "n", .str "r"]) = H1 at S1 ⊢
  cases el : letO (.str z) with
  | none =>
    rw [in4_none el]
    refine iteT (mk_raise (C := cBN K) ((kE _ ?_).mono S1) fun R h => ⟨_, rfl, h⟩)
    unfold madeO
    rw [el]
  | some c =>
    obtain ⟨ez, hc⟩ := let_some el
    cases ez
    rw [in4_yes hc]
    refine iteF ⟨_, rfl, _, rfl, x, c, rfl, hx.same S1, sx, trn24 x, ⟨by decide, by decide⟩, fun H2 S2 => ⟨_, rfl, ?_⟩⟩
    have S02 := Same.trans' S1 S2
    by_cases hm : makerV x c = true
    rotate_left
    · rw [Bool.not_eq_true _ |>.mp hm]
      refine iteT (mk_raise (C := cBN K) ((kE _ ?_).mono S02) fun R h => ⟨_, rfl, h⟩)
      unfold madeO
      rw [el]
      dsimp only
      rw [if_neg hm]
    rw [hm]
    obtain ⟨zx, rfl⟩ : ∃ zx, x = .str zx := by cases x <;> first | exact ⟨_, rfl⟩ | cases hm
    have mo : madeO (.str zx) (.str (SX.S [c])) t = match whatO c t with
      | some w => .inr (madeT (tl zx) c w)
      | none => .inl t := by
      unfold madeO
      rw [el]
      dsimp only
      rw [if_pos hm]
      cases whatO c t <;> rfl
    refine iteF ⟨_, rfl, rfl, _, rfl, ?_⟩
    have lx : zx.length ≤ 100000 := sx zx rfl
    have joined : ∀ (w : What), Str.empty ++ zx ++ Str.ofString "-" ++ SX.S [c] ++ SX.S (whatT w) = SX.S (madeT (tl zx) c w) := fun w => by
      refine TL.ext_tl ?_
      show ((((#[] ++ zx.cps) ++ (Str.ofString "-").cps) ++ #[c]) ++ (whatT w).toArray).toList = madeT (tl zx) c w
      have ed : (Str.ofString "-").cps = #[45] := by decide +kernel
      rw [ed]
      simp [madeT, tl]
    have szs : ∀ (w : What), (whatT w).length ≤ 100000 → (Str.empty ++ zx).length ≤ sizeLine ∧ (Str.empty ++ zx ++ Str.ofString "-").length ≤ sizeLine ∧ (Str.empty ++ zx ++ Str.ofString "-" ++ SX.S [c]).length ≤ sizeLine ∧ (Str.empty ++ zx ++ Str.ofString "-" ++ SX.S [c] ++ SX.S (whatT w)).length ≤ sizeLine := fun w hl => by
      have e1 : (Str.ofString "-").length = 1 := by decide +kernel
      have e2 : Str.empty.length = 0 := rfl
      have e3 : (SX.S [c]).length = 1 := rfl
      have e4 : (SX.S (whatT w)).length = (whatT w).length := by show (whatT w).toArray.size = _; rw [List.size_toArray]
      simp only [len_app, e1, e2, e3, e4, sizeLine_eq]
      omega
    by_cases hn : c = 110
    · subst hn
      rw [decide_eq_true (congrArg V.str (one_eq tl_n))]
      refine iteT ⟨_, rfl, t, rfl, ht.same S02, st, fun H3 S3 => ⟨_, rfl, ?_⟩⟩
      have S03 := Same.trans' S02 S3
      by_cases hu : userV t = true
      rotate_left
      · rw [Bool.not_eq_true _ |>.mp hu]
        have ew : whatO 110 t = none := by
          cases t with
          | str z => rw [whatO_str, if_neg (fun q => hu q.2)]
          | int i => rw [whatO_int, if_neg (fun q => q.1 rfl)]
          | _ => rfl
        refine iteT (mk_raise (C := cBN K) ((kE _ ?_).mono S03) fun R h => ⟨_, rfl, h⟩)
        rw [mo, ew]
      rw [hu]
      obtain ⟨zt, rfl⟩ : ∃ zt, t = .str zt := by cases t <;> first | exact ⟨_, rfl⟩ | cases hu
      have lt : zt.length ≤ 100000 := st zt rfl
      have ew : whatO 110 (.str zt) = some (.t (tl zt)) := by rw [whatO_str, if_pos ⟨rfl, hu⟩]
      rw [ew] at mo
      have q := k _ mo H3 S03
      obtain ⟨s1, s2, s3, s4⟩ := szs (.t (tl zt)) (by show (tl zt).length ≤ _; rw [← len_tl]; exact lt)
      refine iteF ⟨_, rfl, rfl, _, rfl, ?_⟩
      rw [decide_eq_true (congrArg V.str (one_eq tl_n))]
      refine iteF ?_
      refine iteF ?_
      have jo := joined (.t (tl zt))
      rw [show SX.S (whatT (.t (tl zt))) = zt from S_tl zt] at jo s4
      rw [← jo] at q
      exact ⟨_, rfl, .inl ⟨zx, rfl, small5 lx, zx, rfl, s1, _, rfl, s2, _, rfl, .inl ⟨SX.S [110], rfl, small5 (by show 1 ≤ _; decide), _, rfl, s3, _, rfl, .inl ⟨zt, rfl, small5 lt, _, rfl, s4, q⟩⟩⟩⟩
    · rw [decide_eq_false (one_ne hn tl_n)]
      refine iteF (iteF ⟨_, rfl, rfl, _, rfl, ?_⟩)
      rw [decide_eq_false (one_ne hn tl_n)]
      refine iteT ⟨_, rfl, t, rfl, ht.same S02, _, rfl, ?_⟩
      by_cases hi : isI t = true
      rotate_left
      · rw [Bool.not_eq_true _ |>.mp hi]
        have ew : whatO c t = none := by
          cases t with
          | str z => rw [whatO_str, if_neg (fun q => hn q.1)]
          | int i => exact absurd rfl hi
          | _ => rfl
        refine iteF (iteT (mk_raise (C := cBN K) ((kE _ ?_).mono S02) fun R h => ⟨_, rfl, h⟩))
        rw [mo, ew]
      obtain ⟨i, rfl⟩ : ∃ i, t = .int i := by cases t <;> first | exact ⟨_, rfl⟩ | cases hi
      refine iteT ?_
      have O := exT T.ex
      have kd : KDct K w (He.ga K "HIGHEST") (SX.S [c]) (.int (hiOf c : Int)) := by
        simp only [letters4, List.mem_cons, List.not_mem_nil, or_false] at hc
        rcases hc with rfl | rfl | rfl | rfl
        · exact kdct_of T.kd_HIGHEST O.val_HIGHEST (q := ("s", .int 99)) (by simp)
        · exact kdct_of T.kd_HIGHEST O.val_HIGHEST (q := ("j", .int 99)) (by simp)
        · exact absurd rfl hn
        · exact kdct_of T.kd_HIGHEST O.val_HIGHEST (q := ("r", .int 999999)) (by simp)
      have hh : hiOf c ≤ 999999 := by unfold hiOf; split <;> omega
      have bad : ¬ (0 ≤ i ∧ i ≤ (hiOf c : Int)) → Raised (cBN K) H2 E (bnF (.int i)) := fun nb => (kE _ (by rw [mo, whatO_int, if_neg (fun q => nb q.2)])).mono S02
      refine ⟨_, rfl, 0, i, rfl, rfl, _, rfl, ?_⟩
      by_cases h0 : 0 ≤ i
      rotate_left
      · rw [decide_eq_false h0, if_neg (by decide)]
        exact ⟨_, rfl, iteT (mk_raise (C := cBN K) (bad fun q => h0 q.1) fun R h => ⟨_, rfl, h⟩)⟩
      rw [decide_eq_true h0, if_pos rfl]
      refine ⟨_, rfl, _, _, _, rfl, rfl, kd, i, (hiOf c : Int), rfl, rfl, _, rfl, ?_⟩
      by_cases h1 : i ≤ (hiOf c : Int)
      rotate_left
      · rw [decide_eq_false h1]
        exact iteT (mk_raise (C := cBN K) (bad fun q => h1 q.2) fun R h => ⟨_, rfl, h⟩)
      rw [decide_eq_true h1]
      rw [whatO_int, if_pos ⟨hn, h0, h1⟩] at mo
      have q := k _ mo H2 S02
      obtain ⟨n, rfl⟩ : ∃ n : Nat, i = (n : Int) := ⟨i.toNat, by omega⟩
      have hn9 : n < 10 ^ 6 := by omega
      obtain ⟨s1, s2, s3, s4⟩ := szs (.n n) (by have := TL.numL_len (by decide : 0 < 6) hn9; show (TL.numL n).length ≤ _; omega)
      have jo := joined (.n n)
      rw [show SX.S (whatT (.n n)) = Str.ofString (toString ((n : Nat) : Int)) from (SX.num_S n).symm] at jo s4
      rw [Int.toNat_natCast, ← jo] at q
      have l2 : ((n : Int)).natAbs.log2 < 1920 := by
        rw [Int.natAbs_natCast]
        by_cases z : n = 0
        · rw [z]; decide
        · exact (Nat.log2_lt z).mpr (Nat.lt_of_lt_of_le hn9 (Nat.le_trans (by decide : 10 ^ 6 ≤ 2 ^ 20) (Nat.pow_le_pow_right (by decide) (by decide))))
      exact iteF ⟨_, rfl, .inl ⟨zx, rfl, small5 lx, zx, rfl, s1, _, rfl, s2, _, rfl, .inl ⟨SX.S [c], rfl, small5 (by show 1 ≤ _; decide), _, rfl, s3, _, rfl, .inr ⟨(n : Int), rfl, l2, _, rfl, s4, q⟩⟩⟩⟩

/-! ### a def that makes lambdas and asks repr: its code value is the one that the written part names -/
theorem okLG {P : Program} {w : World} {K : PySem.W.Frag} {mg : Str → Option Value} {base : Heap} {CX : CXT} {k : Nat} {p : Str × Option Str} {fd : FuncData} {ps : List Str} {sp : Sp} {x qual : Str} {params : Arguments} {body : List Stmt} {scope : Scope} {dvs : List V} {kws : List (Str × V)} {N : List Str}
    (F : FunD K x qual params body scope dvs kws (He.fAd K p) fd) (S : FnScope N ps scope) (len : ∀ vs H Q E, sp vs H Q E → vs.length = ps.length)
    (walk : ∀ (A : Around) (outer : List Env) (s : Shared) (H : Hp) (vs : List V) (Q : VK) (E : XK), Room k (A.deeper (envOfC qual scope s.heap.objs.size (He.fAd K p) (.ref (He.codeOf K p)))) → A.guards = some [] → sp vs H Q E →
      ∃ t, PSs (cxOf CX P w K mg base N qual scope (He.fAd K p) (.ref (He.codeOf K p)) A outer s H E) body t ∧ t { nx := fun _ H' => Q .non H', rt := Q } (L2.start N vs) H) : FnG P w K mg base CX (k + 1) (He.fAd K p) fd ps sp :=
  okAt (Z := fun cdv => cdv = .ref (He.codeOf K p)) F S (fun there code => by obtain ⟨c, rfl⟩ := He.codeIn_ref code; exact congrArg Value.ref (He.codeOf_eq there rfl).symm) len fun cdv e => e ▸ walk

/-! ### a text times a number -/
def strRep (x : Str) (n : Int) : Str := if n < 1 then Str.empty else if (n == 1 || x.length == 0) = true then x else ⟨(List.replicate n.toNat x.cps).foldl (· ++ ·) #[]⟩
def rRepS : R2 := fun x y H Q => ∃ (z : Str) (n : Int), x = .str z ∧ y = .int n ∧ z.length ≤ 1000 ∧ -1000 ≤ n ∧ n ≤ 10000 ∧ Q (.str (strRep z n)) H
theorem rep_size (a : Array Nat) : ∀ (k : Nat) (acc : Array Nat), ((List.replicate k a).foldl (· ++ ·) acc).size = acc.size + k * a.size
  | 0, acc => by simp
  | k + 1, acc => by
    rw [List.replicate_succ, List.foldl_cons, rep_size a k, Array.size_append, Nat.succ_mul]
    omega
theorem op_rep_str {X : Cx} : OpR X (binaryOp .Mult) rRepS := by
  intro pins s σ H x y v u Q I rx ry h
  obtain ⟨z, n, rfl, rfl, h1, h2, h3, q⟩ := h
  obtain ⟨t, rfl⟩ := rx
  obtain ⟨t', rfl⟩ := ry
  have big : ¬ n < 1 → (z.length : Int) * n ≤ 1000 * 10000 := fun hn => Int.mul_le_mul (by omega) (by omega) (by omega) (by omega)
  refine PySem.P.mul_str ?_ (fun hn _ => ?_) (fun hn _ => ?_) ?_
  · rw [decide_eq_false (by omega), decide_eq_false (by omega)]; rfl
  · have := Int.le_ediv_of_mul_le (a := (z.length : Int)) (b := 2 ^ 63 - 1) (c := n) (by omega) (by have := big hn; omega)
    omega
  · have b := big hn
    have e : ((z.length * n.toNat : Nat) : Int) = (z.length : Int) * n := by rw [Int.natCast_mul, Int.toNat_of_nonneg (by omega)]
    unfold Builtin.Str.tooLong
    exact decide_eq_false (by rw [sizeLine_eq]; omega)
  · unfold strRep at q
    split
    · rename_i c
      rw [if_pos c] at q
      exact ⟨by decide, ⟨.str _, H, I.tok _, ⟨_, rfl⟩, q⟩⟩
    · rename_i c
      rw [if_neg c] at q
      split
      · rename_i d
        rw [if_pos d] at q
        exact ⟨.str _, H, I, ⟨_, rfl⟩, q⟩
      · rename_i d
        rw [if_neg d] at q
        refine ⟨?_, ⟨.str _, H, I.tok _, ⟨_, rfl⟩, q⟩⟩
        have b := big c
        have e : ((z.length * n.toNat : Nat) : Int) = (z.length : Int) * n := by rw [Int.natCast_mul, Int.toNat_of_nonneg (by omega)]
        have l := rep_size z.cps n.toNat #[]
        show ((List.replicate n.toNat z.cps).foldl (· ++ ·) #[]).size ≤ sizeLine
        rw [l, sizeLine_eq]
        have e2 : z.cps.size = z.length := rfl
        rw [e2, Nat.mul_comm]
        show 0 + z.length * n.toNat ≤ _
        omega

/-! ### the plain law of names taken apart -/
theorem userL_len {l : List Nat} (h : userL l = true) : 1 ≤ l.length ∧ l.length ≤ 10 := by
  unfold userL at h
  rw [Bool.and_eq_true] at h
  exact of_decide_eq_true h.1
theorem numF_len {l : List Nat} {w n : Nat} (h : numF l w = some n) : 1 ≤ l.length ∧ l.length ≤ w := by
  unfold numF at h
  split at h
  · rename_i q; exact q.1
  · cases h
theorem partF_len {c : Nat} {r : List Nat} {w : What} (h : partF c r = some w) : r.length ≤ (if c = 110 then 10 else if c = 114 then 6 else 2) := by
  unfold partF at h
  by_cases hn : c = 110
  · rw [if_pos hn] at h ⊢
    split at h
    · rename_i q; exact (userL_len q).2
    · cases h
  · rw [if_neg hn] at h ⊢
    cases e : numF r (if c = 114 then 6 else 2) with
    | none => rw [e] at h; cases h
    | some n => exact (numF_len e).2
theorem apart_short {l m r : List Nat} {c : Nat} (hl : l.length ≤ 22) (hd : lastDash l = some (m, c :: r)) (hc : c ∈ letters4) : apartL l = match partF c r with
    | some w => if makerL m c = true then some (m, c, w) else none
    | none => none := by
  have dl := congrArg List.length (dash_some hd).1
  rw [List.length_append, List.length_cons, List.length_cons] at dl
  have e : apartN 23 m = apartL m := apart_eq (.inl (by omega)) (by decide)
  unfold apartL
  rw [apartN, if_neg (by omega), hd]
  show (if c ∈ letters4 then _ else _) = _
  rw [if_pos hc, e]
  rfl
theorem apart_none {l : List Nat} (h : ∀ m c r, lastDash l = some (m, c :: r) → c ∈ letters4 → False) : apartL l = none := by
  unfold apartL apartN
  split
  · rfl
  · split
    · rename_i m c r e
      rw [if_neg (fun hc => h _ _ _ e hc)]
    · rfl
theorem apart_some {l m : List Nat} {c : Nat} {w : What} (h : apartL l = some (m, c, w)) : ∃ r, lastDash l = some (m, c :: r) ∧ c ∈ letters4 ∧ partF c r = some w ∧ makerL m c = true ∧ l.length ≤ 22 := by
  by_cases hl : l.length ≤ 22
  rotate_left
  · have e : apartL l = none := apart_long (by omega)
    rw [e] at h; cases h
  cases hd : lastDash l with
  | none => rw [apart_none (fun m c r e => by rw [hd] at e; cases e)] at h; cases h
  | some me =>
    obtain ⟨m', e⟩ := me
    cases e with
    | nil => rw [apart_none (fun m c r e => by rw [hd] at e; cases e)] at h; cases h
    | cons c' r =>
      by_cases hc : c' ∈ letters4
      · rw [apart_short hl hd hc] at h
        cases hp : partF c' r with
        | none => rw [hp] at h; cases h
        | some w' =>
          rw [hp] at h
          dsimp only at h
          by_cases hm : makerL m' c' = true
          · rw [if_pos hm] at h
            cases h
            exact ⟨r, rfl, hc, hp, hm, hl⟩
          · rw [if_neg hm] at h; cases h
      · rw [apart_none (fun m c r e q => by rw [hd] at e; cases e; exact hc q)] at h; cases h
theorem maker_len {m : List Nat} {c : Nat} (h : makerL m c = true) : m.length ≤ (if c = 115 then 18 else 10) := by
  unfold makerL at h
  rw [Bool.or_eq_true] at h
  rcases h with h | h
  · have := (userL_len h).2
    split <;> omega
  · rw [Bool.and_eq_true, beq_iff_eq] at h
    rw [if_pos h.1]
    have hr := h.2
    cases e : apartL m with
    | none => rw [e] at hr; cases hr
    | some ap =>
      obtain ⟨m', c', w'⟩ := ap
      rw [e] at hr
      have hc' : c' = 114 := beq_iff_eq.mp hr
      subst hc'
      obtain ⟨r, hd, _, hp, hm, _⟩ := apart_some e
      have l1 := partF_len hp
      rw [if_neg (by decide), if_pos rfl] at l1
      have l2 : userL m' = true := by
        unfold makerL at hm
        rw [Bool.or_eq_true] at hm
        rcases hm with hm | hm
        · exact hm
        · exact absurd (Bool.and_eq_true_iff.mp hm).1 (by decide)
      have l3 := (userL_len l2).2
      have dl := congrArg List.length (dash_some hd).1
      rw [List.length_append, List.length_cons, List.length_cons] at dl
      omega
theorem apart_unfold {l m r : List Nat} {c : Nat} (hd : lastDash l = some (m, c :: r)) (hc : c ∈ letters4) : apartL l = match partF c r with
    | some w => if makerL m c = true then some (m, c, w) else none
    | none => none := by
  by_cases hl : l.length ≤ 22
  · exact apart_short hl hd hc
  rw [show apartL l = none from apart_long (by omega)]
  cases hp : partF c r with
  | none => rfl
  | some w =>
    dsimp only
    rw [if_neg]
    intro hm
    have l1 := partF_len hp
    have l2 := maker_len hm
    have dl := congrArg List.length (dash_some hd).1
    rw [List.length_append, List.length_cons, List.length_cons] at dl
    simp only [letters4, List.mem_cons, List.not_mem_nil, or_false] at hc
    rcases hc with rfl | rfl | rfl | rfl
    · rw [if_neg (by decide), if_neg (by decide)] at l1; rw [if_pos rfl] at l2; omega
    · rw [if_neg (by decide), if_neg (by decide)] at l1; rw [if_neg (by decide)] at l2; omega
    · rw [if_pos rfl] at l1; rw [if_neg (by decide)] at l2; omega
    · rw [if_neg (by decide), if_pos rfl] at l1; rw [if_neg (by decide)] at l2; omega
/-- slices by numbers -/
theorem cut_list {l : List Nat} {i j : Nat} : (l.drop (min i l.length)).take (min j l.length - min i l.length) = (l.drop i).take (j - i) := by
  by_cases h : i ≤ l.length
  · rw [Nat.min_eq_left h]
    by_cases h2 : j ≤ l.length
    · rw [Nat.min_eq_left h2]
    · rw [Nat.min_eq_right (by omega), List.take_of_length_le (by rw [List.length_drop]; omega), List.take_of_length_le (by rw [List.length_drop]; omega)]
  · rw [Nat.min_eq_right (show l.length ≤ i by omega), List.drop_of_length_le (Nat.le_refl _), List.drop_of_length_le (by omega), List.take_nil, List.take_nil]
theorem cut_mid (z : Str) (i j : Nat) : cutS z (some (i : Int)) (some (j : Int)) = SX.S (((tl z).drop i).take (j - i)) := by
  unfold cutS
  rw [HT.sIx_nat, HT.sIx_nat, len_tl]
  exact congrArg SX.S cut_list
theorem cut_from (z : Str) (i : Nat) : cutS z (some (i : Int)) none = SX.S ((tl z).drop i) := by
  have e := SX.slice_from (a := tl z) (i := (i : Int)) (by omega)
  rw [← C8.cutS_slice, S_tl, Int.toNat_natCast] at e
  exact e
theorem cut_to (z : Str) (i : Nat) : cutS z none (some (i : Int)) = SX.S ((tl z).take i) := by
  have e := SX.slice_to (a := tl z) (i := (i : Int)) (by omega)
  rw [← C8.cutS_slice, S_tl, Int.toNat_natCast] at e
  exact e
theorem index_rev {z : Str} {m e : List Nat} (h : tl z = m ++ 45 :: e) (hn : 45 ∉ e) : ∃ rest, Builtin.Str.occurrences (SX.S (tl z).reverse) "-" 0 (SX.S (tl z).reverse).length 1 = e.length :: rest := by
  have et : tl (SX.S (tl z).reverse) = e.reverse ++ 45 :: m.reverse := by rw [tl_S, h, List.reverse_append, List.reverse_cons, List.append_assoc]; rfl
  generalize SX.S (tl z).reverse = y at et
  have hl : y.length = e.length + 1 + m.length := by rw [len_tl, et, List.length_append, List.length_cons, List.length_reverse, List.length_reverse]; omega
  have el : (("-" : Str)).length = 1 := by decide +kernel
  have at0 : StrLaws.At y "-" y.length e.length := ⟨by rw [el]; omega, at_dash.mpr (by rw [et, List.getElem?_append_right (by rw [List.length_reverse]; exact Nat.le_refl _), List.length_reverse, Nat.sub_self]; rfl)⟩
  rcases StrLaws.occ_head y "-" 1 (Nat.le_refl _) with ⟨_, q⟩ | ⟨i, r, q, hi, hk⟩
  · exact absurd at0 (q _)
  · refine ⟨r, ?_⟩
    rw [q]
    congr 1
    by_cases c : e.length < i
    · exact absurd at0 (hk _ c)
    by_cases c2 : i < e.length
    · have z1 := at_dash.mp hi.2
      rw [et, List.getElem?_append_left (by rw [List.length_reverse]; exact c2)] at z1
      exact absurd (List.mem_reverse.mp (List.mem_of_getElem? z1)) hn
    omega

/-- plain signs only -/
def Asc (l : List Nat) : Prop := ∀ c ∈ l, c < 128
theorem Asc.ok {l : List Nat} (h : Asc l) : PyData.canLay0 (.str (SX.S l)) = true := by
  show PyData.strOk _ = true
  unfold PyData.strOk
  rw [Array.all_eq_true_iff_forall_mem]
  intro c hc
  have := h c (by simpa [SX.S] using hc)
  exact decide_eq_true (by omega)
theorem part_t {c : Nat} {r l : List Nat} (h : partF c r = some (.t l)) : l = r := by
  unfold partF at h
  split at h
  · split at h
    · cases h; rfl
    · cases h
  · rename_i hn
    cases e : numF r (if c = 114 then 6 else 2) with
    | none => rw [e] at h; cases h
    | some n => rw [e] at h; cases h
theorem apart_asc {l m : List Nat} {c : Nat} {w : What} (ha : Asc l) (h : apartL l = some (m, c, w)) : Asc m ∧ Asc [c] ∧ ∀ t, w = .t t → Asc t := by
  obtain ⟨r, hd, _, hp, _, _⟩ := apart_some h
  have d1 := (dash_some hd).1
  refine ⟨fun x hx => ha x ?_, fun x hx => ha x ?_, fun t e x hx => ha x ?_⟩
  · rw [d1]; exact List.mem_append_left _ hx
  · rw [d1]; cases List.mem_singleton.mp hx; simp
  · subst e
    rw [part_t hp] at hx
    rw [d1]
    exact List.mem_append_right _ (List.mem_cons_of_mem _ (List.mem_cons_of_mem _ hx))
def whatD : What → PyData
  | .t l => .str (SX.S l)
  | .n k => .int (k : Int)
def apD (m : List Nat) (c : Nat) (w : What) : PyData := .tuple [.str (SX.S m), .str (SX.S [c]), whatD w]
theorem apD_sh {m : List Nat} {c : Nat} {w : What} (hm : Asc m) (hc : Asc [c]) (hw : ∀ t, w = .t t → Asc t) : SeqAt.shaped (apD m c w) = true := by
  have h3 : PyData.canLay0 (whatD w) = true := by
    cases w with
    | t l => exact (hw l rfl).ok
    | n k => rfl
  have h4 : PyData.depth (whatD w) = 0 := by cases w <;> rfl
  unfold SeqAt.shaped apD
  show ((PyData.canLay0 _ && (PyData.canLay0 _ && (PyData.canLay0 _ && true))) && decide (max (PyData.depth _) (max (PyData.depth _) (max (PyData.depth _) 0)) + 1 ≤ 64)) = true
  rw [hm.ok, hc.ok, h3, h4]
  rfl
theorem ap_dp {K : PySem.W.Frag} {H : Hp} {p : Addr} {m : List Nat} {c : Nat} {w : What} (h : H p = some (.tup [.str (SX.S m), .str (SX.S [c]), w.v])) : Dp K H (.ref p) (apD m c w) := by
  refine .tup (SqT.of h) (.cons (.str _) (.cons (.str _) (.cons ?_ .nil)))
  cases w with
  | t l => exact .str _
  | n k => exact .int _

/-! ### draws -/
theorem joinL_nil : ∀ ps : List (List Nat), TL.joinL [] ps = ps.flatten
  | [] => rfl
  | [p] => by simp [TL.joinL]
  | p :: q :: r => by
    have := joinL_nil (q :: r)
    simp only [TL.joinL, List.nil_append, List.flatten_cons] at this ⊢
    rw [this]
theorem join_ones (l : List Nat) : Txt.join (Str.ofString "") (l.map fun c => SX.S [c]) = SX.S l := by
  refine TL.ext_tl ?_
  rw [TL.join_eq, TL.tl_join]
  have e : TL.tl (Str.ofString "") = [] := by decide +kernel
  rw [e, joinL_nil, List.map_map]
  show (l.map fun c => [c]).flatten = l
  induction l with
  | nil => rfl
  | cons c l ih => rw [List.map_cons, List.flatten_cons, ih]; rfl
def signs36 : Str := "abcdefghijklmnopqrstuvwxyz0123456789"
theorem signs_eq : signs36 = smallT ++ digitT := by decide +kernel
theorem signs_len : (tl signs36).length = 36 := by decide +kernel
theorem firsts_ok : ∀ c ∈ tl (Str.ofString "asjnrz"), inSm c = true ∧ inSD c = true := by decide +kernel
theorem user_made {c : Nat} {l : List Nat} (hc : c ∈ tl (Str.ofString "asjnrz")) (hl : l.length ≤ 9) (hs : ∀ d ∈ l, d ∈ tl signs36) : userL (c :: l) = true := by
  unfold userL
  rw [decide_eq_true (by rw [List.length_cons]; omega)]
  obtain ⟨h1, h2⟩ := firsts_ok c hc
  show (true && (inSm c && (inSD c && l.all inSD))) = true
  have h3 : l.all inSD = true := List.all_eq_true.mpr fun d hd => decide_eq_true (by rw [← signs_eq]; exact hs d hd)
  rw [h1, h2, h3]
  rfl
def sp__law_user_name (K : PySem.W.Frag) : Sp := fun vs H Q _ => ∃ (a : Addr) (n : Nat), vs = [.ref a] ∧ WellAt H a n ∧ n < 900000 ∧ ∀ z H' n', userB z = true → Keep a H H' → WellAt H' a n' → n' ≤ n + 11 → Q (.str z) H'
theorem ok__law_user_name {P : Program} {w : World} {K : PySem.W.Frag} {mg : Str → Option Value} {base : Heap} {fd : FuncData} (T : Txt K mg w) (F : FnP K "_law_user_name" s__law_user_name [] fd) : FnOk P w K mg base CX0 2 (He.ga K "_law_user_name") fd ps__law_user_name (sp__law_user_name K) := by
  obtain ⟨fd__law_draw, F__law_draw⟩ := T.d__law_draw
  have G__law_draw := ok__law_draw (P := P) (w := w) (base := base) T F__law_draw
  have k__law_draw := F__law_draw.kp
  have b__law_draw := bi__law_draw F__law_draw
  refine F.ok sc__law_user_name (fun vs H Q E h => ?len) (fun cdv A outer s H vs Q E hr h => ?body)
  case len => obtain ⟨a, n, rfl, hw, hn, k⟩ := h; rfl
  case body =>
  obtain ⟨a, n, rfl, hw, hn, k⟩ := h
  have hu := hu_of hr
  refine ⟨_, PSs.nox (pss_cons (ps_set (i := 1) sc__law_user_name.nd rfl (Or.inr rfl) pe_str)
    (pss_cons (ps_set (i := 2) sc__law_user_name.nd rfl (Or.inl rfl) (pe_ix ix_str pe_str (pe_call G__law_draw (hr.mono (by first | decide | omega)) rfl T.g__law_draw k__law_draw b__law_draw .nil pass0 (pa_cons (pv 0) (pa_cons pe_int pa_nil))) (fun _ _ => rfl)))
    (pss_cons (ps_set (i := 3) sc__law_user_name.nd rfl (Or.inl rfl) (pe_ix ix_list (pe_lst (pa_cons pe_int (pa_cons pe_int (pa_cons pe_int (pa_cons pe_int pa_nil))))) (pe_call G__law_draw (hr.mono (by first | decide | omega)) rfl T.g__law_draw k__law_draw b__law_draw .nil pass0 (pa_cons (pv 0) (pa_cons pe_int pa_nil))) (fun _ _ => rfl)))
    (pss_one (ps_ret (pe_op op_add_str (pv 2) (pe_join pe_str (pe_lc (own := [("_law_k", 4)]) rfl sc__law_user_name.nd (pi_range1 rfl T.n_range (pa_cons (pv 3) pa_nil)) (blkOk_by (own := [("_law_k", 4)]) (N := N__law_user_name) (sc := defScope s__law_user_name) (by decide +kernel)) (fun _ _ _ _ _ => (pg_name (i := 4) sc__law_user_name.nd rfl (Or.inl rfl))) (fun _ _ _ _ _ => pts_nil) (fun _ _ _ _ _ => (pe_ix ix_str (pv 1) (pe_call G__law_draw (hr.mono (by first | decide | omega)) rfl T.g__law_draw k__law_draw b__law_draw .nil pass0 (pa_cons (pv 0) (pa_cons pe_int pa_nil))) (fun _ _ => rfl))))))))))), ?_⟩
  refine ⟨_, rfl, a, n, 6, rfl, hw, by omega, by decide, by decide, fun r u1 n1 r0 r1 m1 hu1 => ?_⟩
  have l6 : (tl (Str.ofString "asjnrz")).length = 6 := by decide +kernel
  obtain ⟨j, rfl⟩ := Int.eq_ofNat_of_zero_le r0
  have hj : j < (tl (Str.ofString "asjnrz")).length := by omega
  have ej : (tl (Str.ofString "asjnrz"))[j]? = some (tl (Str.ofString "asjnrz"))[j] := List.getElem?_eq_getElem hj
  have hc1 := List.getElem_mem hj
  generalize (tl (Str.ofString "asjnrz"))[j] = c1 at ej hc1
  refine ⟨Str.ofString "asjnrz", _, c1, rfl, rfl, small5 (by decide +kernel), atI_nat ej, ?_⟩
  have w1 := well_upd (H := H) (a := a) hu1
  have K1 : Keep a H (upd H a u1) := Keep.at_
  generalize upd H a u1 = H1 at w1 K1 ⊢
  refine ⟨smallN (by show 4 ≤ 1000; decide), fun p2 q2 => ?_⟩
  have w2 := well_new (u := .lst [.int 0, .int 1, .int 2, .int 9]) w1 q2
  have K2 : Keep a H (upd H1 p2 (.lst [.int 0, .int 1, .int 2, .int 9])) := K1.trans (Keep.new q2)
  have np2 : p2 ≠ a := well_ne3 w1 q2
  have g2 : upd H1 p2 (.lst [.int 0, .int 1, .int 2, .int 9]) p2 = some (.lst [.int 0, .int 1, .int 2, .int 9]) := upd_same
  generalize upd H1 p2 (.lst [.int 0, .int 1, .int 2, .int 9]) = H2 at w2 K2 g2 ⊢
  refine ⟨_, rfl, a, n1, 4, rfl, w2, by omega, by decide, by decide, fun r3 u3 n3 r30 r31 m3 hu3 => ?_⟩
  have w3 := well_upd (H := H2) (a := a) hu3
  have K3 : Keep a H (upd H2 a u3) := K2.trans Keep.at_
  have g3 : upd H2 a u3 p2 = _ := (upd_ne np2).trans g2
  generalize upd H2 a u3 = H3 at w3 K3 g3 ⊢
  obtain ⟨sz, es, hs9⟩ : ∃ sz : Nat, atI [V.int 0, .int 1, .int 2, .int 9] r3 = some (.int (sz : Int)) ∧ sz ≤ 9 := by
    obtain ⟨i, rfl⟩ := Int.eq_ofNat_of_zero_le r30
    have hi : i < 4 := by omega
    match i, hi with
    | 0, _ => exact ⟨0, rfl, by decide⟩
    | 1, _ => exact ⟨1, rfl, by decide⟩
    | 2, _ => exact ⟨2, rfl, by decide⟩
    | 3, _ => exact ⟨9, rfl, by decide⟩
  refine ⟨p2, _, r3, _, rfl, rfl, SqL.of g3, es, _, rfl, ⟨_, rfl⟩, ?_⟩
  refine ⟨_, rfl, (sz : Int), rfl, by omega, by omega, fun D hD => ?_⟩
  have nD : D ≠ a := well_ne3 w3 hD
  refine lc_range (lo := 0) (n := sz) (fun i H' => ∃ (n' : Nat) (acc : List Nat), Keep a H3 H' ∧ WellAt H' a n' ∧ n' ≤ n3 + i ∧ H' D = some (.lst ((acc.map fun c => SX.S [c]).map V.str)) ∧ acc.length = i ∧ ∀ z ∈ acc, z ∈ tl signs36)
    ⟨n3, [], Keep.new hD, well_new w3 hD, by omega, upd_same, rfl, fun z hz => by cases hz⟩ ?_ ?_
  · rintro i H4 hi ⟨n4, acc, K4, w4, m4, gD, la, ha⟩
    refine ⟨rfl, yes_ (iteT ?_)⟩
    refine ⟨_, rfl, _, rfl, a, n4, 36, rfl, w4, by omega, by decide, by decide, fun z u5 n5 z0 z1 m5 hu5 => ?_⟩
    obtain ⟨j, rfl⟩ := Int.eq_ofNat_of_zero_le z0
    have hj : j < (tl signs36).length := by rw [signs_len]; omega
    have ej : (tl signs36)[j]? = some (tl signs36)[j] := List.getElem?_eq_getElem hj
    have hc := List.getElem_mem hj
    generalize (tl signs36)[j] = c at ej hc
    refine ⟨signs36, _, c, rfl, rfl, small5 (by decide +kernel), atI_nat ej, ?_⟩
    have w5 := well_upd (H := H4) (a := a) hu5
    have K5 : Keep a H3 (upd H4 a u5) := K4.trans Keep.at_
    refine ⟨(acc.map fun c => SX.S [c]).map V.str, by rw [upd_ne nD]; exact gD, small1000 (by rw [List.length_map, List.length_map]; omega), n5, acc ++ [c], ?_, ?_, by omega, by rw [upd_same, List.map_append, List.map_append]; rfl, by rw [List.length_append, la]; rfl, fun y hy => ?_⟩
    · exact fun b o hb hbo => by rw [upd_ne (ne_of_none hbo hD)]; exact K5 b o hb hbo
    · obtain ⟨v, hv, o⟩ := w5
      exact ⟨v, by rw [upd_ne nD.symm]; exact hv, o⟩
    · rcases List.mem_append.mp hy with h | h
      · exact ha y h
      · rw [List.mem_singleton.mp h]; exact hc
  · rintro H4 ⟨n4, acc, K4, w4, m4, gD, la, ha⟩
    have sum : ((acc.map fun c => SX.S [c]).map (·.length)).sum = acc.length := by
      clear gD la ha
      induction acc with
      | nil => rfl
      | cons c l ih => rw [List.map_cons, List.map_cons, List.sum_cons, ih, List.length_cons]; show 1 + _ = _; omega
    refine ⟨_, D, acc.map (fun c => SX.S [c]), rfl, rfl, .inl (SqL.of gD), ?_, ?_⟩
    · rw [sum, List.length_map, show (Str.ofString "").length = 0 from rfl]; omega
    rw [join_ones]
    refine ⟨_, _, rfl, rfl, ?_, ?_⟩
    · show 1 + acc.toArray.size ≤ _
      rw [List.size_toArray]
      exact small5 (by omega)
    · refine k _ _ n4 ?_ (K3.trans K4) w4 (by omega)
      have e : tl (⟨#[c1]⟩ ++ SX.S acc) = c1 :: acc := by
        show (#[c1] ++ acc.toArray).toList = c1 :: acc
        simp
      show userL (tl _) = true
      rw [e]
      exact user_made hc1 (by omega) ha

/-! ### made names are read back -/
def Parts (m : List Nat) (c : Nat) (w : What) : Prop := c ∈ letters4 ∧ makerL m c = true ∧ whatO c w.v = some w
theorem user_nodash {l : List Nat} (h : userL l = true) : 45 ∉ l := by
  intro q
  unfold userL at h
  rw [Bool.and_eq_true, Bool.and_eq_true] at h
  have h2 := List.all_eq_true.mp h.2.2 45 q
  exact absurd h2 (by decide +kernel)
theorem parts_what {c : Nat} {w : What} (h : whatO c w.v = some w) : (c = 110 ∧ ∃ l, w = .t l ∧ userL l = true) ∨ (c ≠ 110 ∧ ∃ k, w = .n k ∧ k ≤ hiOf c) := by
  cases w with
  | t l =>
    have h : whatO c (.str (SX.S l)) = some (.t l) := h
    rw [whatO_str] at h
    by_cases q : c = 110 ∧ userB (SX.S l) = true
    · exact .inl ⟨q.1, l, rfl, q.2⟩
    · rw [if_neg q] at h; cases h
  | n k =>
    have h : whatO c (.int (k : Int)) = some (.n k) := h
    rw [whatO_int] at h
    by_cases q : c ≠ 110 ∧ 0 ≤ (k : Int) ∧ (k : Int) ≤ (hiOf c : Int)
    · exact .inr ⟨q.1, k, rfl, by omega⟩
    · rw [if_neg q] at h; cases h
theorem digits_in {l : List Nat} (h : NumText.AllDigits l) : l.all inDg = true := by
  refine List.all_eq_true.mpr fun c hc => decide_eq_true ?_
  have e : tl digitT = [48, 49, 50, 51, 52, 53, 54, 55, 56, 57] := by decide +kernel
  rw [e]
  have := h c hc
  simp only [List.mem_cons, List.not_mem_nil, or_false]
  omega
theorem parts_part {c : Nat} {w : What} (h : whatO c w.v = some w) : partF c (whatT w) = some w ∧ 45 ∉ whatT w := by
  rcases parts_what h with ⟨rfl, l, rfl, hu⟩ | ⟨hn, k, rfl, hk⟩
  · refine ⟨?_, user_nodash hu⟩
    unfold partF
    rw [if_pos rfl]
    exact if_pos hu
  · refine ⟨?_, TL.numL_free (.inl (by decide))⟩
    unfold partF
    rw [if_neg hn]
    have lt : k < 10 ^ (if c = 114 then 6 else 2) := by
      unfold hiOf at hk
      by_cases r : c = 114
      · rw [if_pos r] at hk ⊢; omega
      · rw [if_neg r] at hk ⊢; omega
    have ln := TL.numL_len (n := k) (k := if c = 114 then 6 else 2) (by split <;> decide) lt
    show (numF (TL.numL k) _).map What.n = some (.n k)
    unfold numF
    have l1 : 1 ≤ (TL.numL k).length := by
      cases e : TL.numL k with
      | nil => exact absurd e (TL.numL_ne k)
      | cons _ _ => simp
    rw [if_pos ⟨⟨l1, ln⟩, digits_in (TL.numL_digits k)⟩, TL.numL_val, if_pos rfl]
    rfl
theorem dash_at : ∀ (m : List Nat) {e : List Nat}, 45 ∉ e → lastDash (m ++ 45 :: e) = some (m, e)
  | [], e, h => by
    show (match lastDash e with
      | some (m, e) => some (45 :: m, e)
      | none => if 45 = 45 then some ([], e) else none) = _
    cases q : lastDash e with
    | none => rfl
    | some me =>
      obtain ⟨m', e'⟩ := me
      exact absurd (by rw [(dash_some q).1]; simp) h
  | c :: m, e, h => by
    show (match lastDash (m ++ 45 :: e) with
      | some (m, e) => some (c :: m, e)
      | none => if c = 45 then some ([], m ++ 45 :: e) else none) = _
    rw [dash_at m h]
theorem made_apart {m : List Nat} {c : Nat} {w : What} (h : Parts m c w) : apartL (madeT m c w) = some (m, c, w) := by
  obtain ⟨hc, hm, hw⟩ := h
  obtain ⟨hp, hd⟩ := parts_part hw
  have nd : 45 ∉ c :: whatT w := by
    intro q
    rcases List.mem_cons.mp q with q | q
    · rw [← q] at hc; exact absurd hc (by decide)
    · exact hd q
  rw [apart_unfold (l := madeT m c w) (dash_at m nd) hc, hp]
  dsimp only
  rw [if_pos hm]
theorem made_made {m : List Nat} {c : Nat} {w : What} (h : Parts m c w) : madeO (.str (SX.S m)) (.str (SX.S [c])) w.v = .inr (madeT m c w) := by
  obtain ⟨hc, hm, hw⟩ := h
  unfold madeO
  have e1 : letO (.str (SX.S [c])) = some c := by show letL (tl (SX.S [c])) = _; rw [tl_S, letL_one, if_pos hc]
  rw [e1]
  dsimp only
  rw [if_pos (show makerV (.str (SX.S m)) c = true from hm), hw]
  rfl
theorem made_user {m : List Nat} {c : Nat} {w : What} (h : Parts m c w) : userL (madeT m c w) = false := by
  cases e : userL (madeT m c w) with
  | false => rfl
  | true => exact absurd (by unfold madeT; simp) (user_nodash e)
theorem made_len {m : List Nat} {c : Nat} {w : What} (h : Parts m c w) : (madeT m c w).length ≤ 22 := (apart_some (made_apart h)).choose_spec.2.2.2.2
theorem user_asc {l : List Nat} (h : userL l = true) : Asc l := fun c hc => by
  unfold userL at h
  rw [Bool.and_eq_true, Bool.and_eq_true] at h
  have h2 := of_decide_eq_true (List.all_eq_true.mp h.2.2 c hc)
  have key : ∀ d ∈ tl (smallT ++ digitT), d < 128 := by decide +kernel
  exact key c h2
theorem maker_user {m : List Nat} {c : Nat} (h : userL m = true) : makerL m c = true := by unfold makerL; rw [h]; rfl
theorem maker_roll {m : List Nat} {k : Nat} (h : Parts m 114 (.n k)) : makerL (madeT m 114 (.n k)) 115 = true := by
  unfold makerL
  rw [made_apart h]
  show (_ || (true && true)) = true
  rw [Bool.and_self, Bool.or_true]
theorem parts_num {m : List Nat} {c k : Nat} (hc : c ∈ letters4) (hm : makerL m c = true) (hn : c ≠ 110) (hk : k ≤ hiOf c) : Parts m c (.n k) :=
  ⟨hc, hm, by show whatO c (.int (k : Int)) = _; rw [whatO_int, if_pos ⟨hn, by omega, by omega⟩]; rfl⟩
theorem parts_text {m l : List Nat} (hm : makerL m 110 = true) (hl : userL l = true) : Parts m 110 (.t l) :=
  ⟨by decide, hm, by show whatO 110 (.str (SX.S l)) = _; rw [whatO_str, if_pos ⟨rfl, hl⟩]; rfl⟩

/-! ### data that repr shows -/
def Fit (b dep : Nat) (d : PyData) : Prop := d.showable = true ∧ d.depth ≤ dep ∧ d.leavesShort 13 = true ∧ d.bulk ≤ b
theorem Fit.shown {b dep : Nat} {d : PyData} (h : Fit b dep d) (h1 : dep ≤ 60) (h2 : b ≤ 2 ^ 20) : d.showable = true ∧ d.depth ≤ 60 ∧ d.shown.length ≤ sizeLine :=
  ⟨h.1, Nat.le_trans h.2.1 h1, PyData.shown_fits_bulk (B := 13) (by decide) (by decide) h.2.2.1 (Nat.le_trans h.2.2.2 h2)⟩
theorem fit_none {b dep : Nat} : Fit b dep .none := ⟨by simp [PyData.showable], by simp [PyData.depth], by simp [PyData.leavesShort], by simp [PyData.bulk]⟩
theorem fit_bool {b dep : Nat} (x : Bool) : Fit b dep (.bool x) := ⟨by simp [PyData.showable], by simp [PyData.depth], by simp [PyData.leavesShort], by simp [PyData.bulk]⟩
theorem fit_int {b dep : Nat} {i : Int} (h : i.natAbs < 10 ^ 12) : Fit b dep (.int i) := by
  refine ⟨?_, by simp [PyData.depth], ?_, by simp [PyData.bulk]⟩
  · simp only [PyData.showable, decide_eq_true_eq]
    by_cases z : i.natAbs = 0
    · rw [z]; decide
    · exact (Nat.log2_lt z).mpr (Nat.lt_of_lt_of_le h (by decide +kernel))
  · simp only [PyData.leavesShort, decide_eq_true_eq]
    exact PyData.shown_int_le h
theorem fit_str {b dep : Nat} {x : Str} (h1 : x.cps.size ≤ b) (h2 : (x.cps.toList.all fun c => decide (c < 16 ^ 8)) = true) : Fit b dep (.str x) :=
  ⟨by simp [PyData.showable], by simp [PyData.depth], by simpa [PyData.leavesShort] using h2, by simpa [PyData.bulk] using h1⟩
theorem fit_all {b dep : Nat} : ∀ {ds : List PyData}, (∀ d ∈ ds, Fit b dep d) → PyData.showableAll ds = true ∧ PyData.depthAll ds ≤ dep ∧ PyData.leavesShortAll 13 ds = true ∧ PyData.bulkAll ds ≤ ds.length * (b + 1)
  | [], _ => by simp [PyData.showableAll, PyData.depthAll, PyData.leavesShortAll, PyData.bulkAll]
  | d :: ds, h => by
    obtain ⟨a1, a2, a3, a4⟩ := h d (List.mem_cons_self ..)
    obtain ⟨b1, b2, b3, b4⟩ := fit_all (ds := ds) fun x hx => h x (List.mem_cons_of_mem _ hx)
    refine ⟨by simp [PyData.showableAll, a1, b1], by simp only [PyData.depthAll]; omega, by simp [PyData.leavesShortAll, a3, b3], ?_⟩
    simp only [PyData.bulkAll, List.length_cons, Nat.add_mul, Nat.one_mul]
    omega
theorem fit_kv {b dep : Nat} : ∀ {kvs : List (PyData × PyData)}, (∀ p ∈ kvs, Fit b dep p.1 ∧ Fit b dep p.2) → PyData.showableKv kvs = true ∧ PyData.depthKv kvs ≤ dep ∧ PyData.leavesShortKv 13 kvs = true ∧ PyData.bulkKv kvs ≤ kvs.length * (2 * b + 2)
  | [], _ => by simp [PyData.showableKv, PyData.depthKv, PyData.leavesShortKv, PyData.bulkKv]
  | (x, y) :: kvs, h => by
    obtain ⟨⟨a1, a2, a3, a4⟩, ⟨c1, c2, c3, c4⟩⟩ := h (x, y) (List.mem_cons_self ..)
    dsimp only at a1 a2 a3 a4 c1 c2 c3 c4
    obtain ⟨b1, b2, b3, b4⟩ := fit_kv (kvs := kvs) fun z hz => h z (List.mem_cons_of_mem _ hz)
    refine ⟨by simp [PyData.showableKv, a1, b1, c1], by simp only [PyData.depthKv]; omega, by simp [PyData.leavesShortKv, a3, b3, c3], ?_⟩
    simp only [PyData.bulkKv, List.length_cons, Nat.add_mul, Nat.one_mul]
    omega
theorem fit_list {n b dep : Nat} {ds : List PyData} (h : ∀ d ∈ ds, Fit b dep d) (hn : ds.length ≤ n) : Fit (n * (b + 1)) (dep + 1) (.list ds) := by
  obtain ⟨b1, b2, b3, b4⟩ := fit_all h
  exact ⟨by simpa [PyData.showable] using b1, by simp only [PyData.depth]; omega, by simpa [PyData.leavesShort] using b3, by simp only [PyData.bulk]; exact Nat.le_trans b4 (Nat.mul_le_mul_right _ hn)⟩
theorem fit_tup {n b dep : Nat} {ds : List PyData} (h : ∀ d ∈ ds, Fit b dep d) (hn : ds.length ≤ n) : Fit (n * (b + 1)) (dep + 1) (.tuple ds) := by
  obtain ⟨b1, b2, b3, b4⟩ := fit_all h
  exact ⟨by simpa [PyData.showable] using b1, by simp only [PyData.depth]; omega, by simpa [PyData.leavesShort] using b3, by simp only [PyData.bulk]; exact Nat.le_trans b4 (Nat.mul_le_mul_right _ hn)⟩
theorem fit_dict {n b dep : Nat} {kvs : List (PyData × PyData)} (h : ∀ p ∈ kvs, Fit b dep p.1 ∧ Fit b dep p.2) (hn : kvs.length ≤ n) : Fit (n * (2 * b + 2)) (dep + 1) (.dict kvs) := by
  obtain ⟨b1, b2, b3, b4⟩ := fit_kv h
  exact ⟨by simpa [PyData.showable] using b1, by simp only [PyData.depth]; omega, by simpa [PyData.leavesShort] using b3, by simp only [PyData.bulk]; exact Nat.le_trans b4 (Nat.mul_le_mul_right _ hn)⟩
theorem Fit.mono {b b' dep dep' : Nat} {d : PyData} (h : Fit b dep d) (h1 : b ≤ b') (h2 : dep ≤ dep') : Fit b' dep' d := ⟨h.1, Nat.le_trans h.2.1 h2, h.2.2.1, Nat.le_trans h.2.2.2 h1⟩

/-! ### [..], and where the new list lies -/
/-- a list pushed on the heap lies at a place that nothing held, and that is not the table of modules -/
theorem pushed_list {X : Cx} {pins : List (Addr × Obj)} {σ : L2.St} {H : Hp} {s : Shared} {xs : List V} {us : List Value} (I : Inv X pins σ H s) (vals : Vals xs us) (few : xs.length ≤ sizeLine) :
    ∃ l, l = s.heap.objs.size ∧ H l = none ∧ l ≠ sysModules ∧ Inv X pins σ (upd H l (.lst xs)) { s with heap := s.heap.push { cls := .type "list", data := .seq us.toArray } } :=
  ⟨_, rfl, I.hok.fresh (Nat.le_refl _), (Nat.ne_of_lt I.big).symm, I.laid (t' := s.toks) (fun _ _ old => Heap.get?_push_of_some _ old) (Nat.le_refl _) ⟨few, us, 0, vals, Heap.get?_push_size _ rfl⟩⟩
def tLstB (ta : TA) : TE := fun σ H Q => ta σ H fun xs H1 => xs.length ≤ sizeLine ∧ ∀ l, H1 l = none → l ≠ sysModules → Q (.ref l) (upd H1 l (.lst xs))
theorem pe_lstB {X : Cx} {es : List Expr} {t : TA} {pos : Pos} (h : PA X es t) : PE X (.List es pos) (tLstB t) where
  run pins s σ H Q I want := wpAny_List_spliced <| thn (h.run pos pins s σ H _ I want) fun us s1 ⟨xs, H1, I1, vals, few, told⟩ =>
    have ⟨l, el, free, other, I2⟩ := pushed_list I1 vals few
    ⟨vals.length ▸ few, el ▸ ⟨.ref l, _, I2, rfl, told l free other⟩⟩

/-! ### isinstance of a caught error with a dict of its own -/
def rIsED (K : PySem.W.Frag) (D a : Addr) (cls : Value) (d : Option Addr) : List V → Hp → VK → Prop := fun xs H Q => ∃ (c : V) (cv : Value) (b : Bool) (dd : Addr) (fs : List (Str × V)), xs = [.ref a, c] ∧ cls = .ref D ∧ d = some dd ∧ H dd = some (.xd fs) ∧ (∀ u, RelV c u → u = cv) ∧ PySem.W.kitOne K (.ref D) cv = some b ∧ Q (.bl b) H
/-- the six things that excB tells of a class -/
structure ExcSays (K : PySem.W.Frag) (C : Addr) : Prop where
  cls : (PySem.W.clsIn K C).isSome = true
  field : XfC K C
  at_ : PySem.W.findIn K (.ref C) "__class__" = some (some (.builtin "object.__class__"))
  get_ : PySem.W.specialIn K (.builtin "object.__class__") "__get__" = some (some (.builtin "getset_descriptor.__get__"))
  takes : PySem.W.takesIn K (.builtin "object.__class__") = some true
  mro : PySem.W.mroIn K C (.type "object") = some true
theorem excSays {K : PySem.W.Frag} {C : Addr} (h : excB K C = true) : ExcSays K C := by
  simp only [excB, Bool.and_eq_true, decide_eq_true_eq] at h
  exact ⟨h.1, xfB_ok h.2.1, h.2.2.1, h.2.2.2.1, h.2.2.2.2.1, h.2.2.2.2.2⟩
theorem call_isED {X : Cx} {a D : Addr} {oe : Obj} {cls : Value} {d : Option Addr} {pn : List (Addr × Obj)} (C : excB X.K D = true) (hz : Zc cls d oe) (hf : ∃ vs, oe.data = .fields vs) : CallR (X.suite a ((a, oe) :: pn)) (.builtin "isinstance") (rIsED X.K D a cls d) :=
  fun pins s σ H xs us Q I vals ⟨c, cv, b, dd, fs, exs, ecls, ed, told, one, kit, want⟩ => by
    subst exs ecls ed
    obtain ⟨_, rest1, rfl, self_, vals2⟩ : ∃ u r, us = u :: r ∧ RelV (.ref a) u ∧ Vals [c] r := by cases vals with | cons r1 r2 => exact ⟨_, _, rfl, r1, r2⟩
    obtain ⟨u, rfl, ru⟩ := vals1 vals2
    cases self_
    cases one u ru
    have S := excSays C
    have ⟨there, _⟩ := I.pin (a, oe) (List.mem_append_left _ List.mem_cons_self)
    have ⟨_, fields⟩ := hf
    have ⟨_, ns, _⟩ : ObjOk X.prog X.w H s.heap dd (.xd fs) := I.hok dd _ told
    have ⟨od, own, _⟩ := lookIn_ns ns
    have inst : PySem.W.InstAt s.heap a oe D (some od) := ⟨there, hz.1, by simp only [PySem.W.notCls, fields], by rw [hz.2]; exact own⟩
    exact PySem.W.kia_one (PySem.W.kitx_exc S.cls S.field.ga S.field.gg S.field.exC S.at_ S.get_ S.takes S.mro) I.kIn inst kit (fun z => nomatch z) fun tk => ⟨.bl b, H, I.kept (t' := tk) fun _ _ same => same, rfl, want⟩
theorem xf_of {K : PySem.W.Frag} {C : Addr} (h : excB K C = true) : XfC K C := (excSays h).field
theorem takes_len {X : Cx} {W : WX} (t : Takes X W) : Takes X (fun c d σ H => σ.length = X.N.length → W c d σ H) := fun u s' ⟨a, B, sI, pins, σ, H, cls, d, e, I, nb, up, sky, na, os, ag, w⟩ =>
  t u s' ⟨a, B, sI, pins, σ, H, cls, d, e, I, nb, up, sky, na, os, ag, w I.len⟩
/-! ### data: flat, a list or a tuple of flat values, an empty dict -/
def OdD (H : Hp) (v : V) (d : PyData) : Prop := (flat v ∧ d = dOf v) ∨ (∃ a xs, v = .ref a ∧ H a = some (.lst xs) ∧ xs.length ≤ 1 ∧ a ≠ sysModules ∧ (∀ x ∈ xs, flat x) ∧ d = .list (xs.map dOf)) ∨ (∃ a xs, v = .ref a ∧ H a = some (.tup xs) ∧ (∀ x ∈ xs, flat x) ∧ d = .tuple (xs.map dOf)) ∨ ∃ a, v = .ref a ∧ H a = some (.dK []) ∧ d = .dict []
def Shd (d : PyData) : Prop := d.showable = true ∧ d.depth ≤ 60 ∧ d.shown.length ≤ sizeLine
theorem shw_flats {K : PySem.W.Frag} {H : Hp} : ∀ {xs : List V}, (∀ x ∈ xs, flat x) → Paired (Shw K H) xs (xs.map dOf)
  | [], _ => .nil
  | x :: xs, h => .cons (shw_flat (h x (List.mem_cons_self ..))) (shw_flats fun y hy => h y (List.mem_cons_of_mem _ hy))
theorem OdD.shw {K : PySem.W.Frag} {H : Hp} {v : V} {d : PyData} (h : OdD H v d) : Shw K H v d := by
  rcases h with ⟨f, rfl⟩ | ⟨a, xs, rfl, g, l1, n, f, rfl⟩ | ⟨a, xs, rfl, g, f, rfl⟩ | ⟨a, rfl, g, rfl⟩
  · exact shw_flat f
  · exact shw_lst (SqL.of g) n (shw_flats f)
  · exact shw_tup (SqT.of g) (shw_flats f)
  · exact shw_dic g rfl .nil
theorem OdD.vl {H : Hp} {v : V} {d : PyData} (h : OdD H v d) : Vl H v := by
  rcases h with ⟨f, rfl⟩ | ⟨a, xs, rfl, g, l1, n, f, rfl⟩ | ⟨a, xs, rfl, g, f, rfl⟩ | ⟨a, rfl, g, rfl⟩
  · exact .inl f
  · exact .inr ⟨a, rfl, .inl ⟨_, g⟩⟩
  · exact .inr ⟨a, rfl, .inr (.inl ⟨_, g⟩)⟩
  · exact .inr ⟨a, rfl, .inr (.inr ⟨_, g⟩)⟩
theorem OdD.go {H H' : Hp} {v : V} {d : PyData} (h : OdD H v d) (s : ∀ a o, v = .ref a → (∀ ps, o ≠ .tbl ps) → H a = some o → H' a = some o) : OdD H' v d := by
  rcases h with h | ⟨a, xs, e, g, l1, n, f, r⟩ | ⟨a, xs, e, g, f, r⟩ | ⟨a, e, g, r⟩
  · exact .inl h
  · exact .inr (.inl ⟨a, xs, e, s _ _ e (fun _ z => by cases z) g, l1, n, f, r⟩)
  · exact .inr (.inr (.inl ⟨a, xs, e, s _ _ e (fun _ z => by cases z) g, f, r⟩))
  · exact .inr (.inr (.inr ⟨a, e, s _ _ e (fun _ z => by cases z) g, r⟩))
theorem OdD.same {H H' : Hp} {v : V} {d : PyData} (h : OdD H v d) (s : Same H H') : OdD H' v d := h.go fun a o _ _ e => s a o e
/-! ### _law_refused -/
def TRef (K : PySem.W.Frag) : (XK → Hp → VK → Prop) → Hp → VK → Prop := fun tl H Q =>
  tl (fun cls d H' => cls = .ref (cBN K) ∧ ∃ dd v e, d = some dd ∧ H' dd = some (.xd (bnF v)) ∧ OdD H' v e ∧ Shd e ∧ ∀ H'', Same H' H'' → Q (.str e.shown) H'') H (fun _ H' => Q (.str "ok") H')
theorem refused_gives {X : Cx} {q : Str} {g : Addr} {cdg : Value} (T : Txt X.K X.mg X.w) (hG : X.A.guards = some []) (hU : X.A.units + 100 < cLine) : LamX.GivesTo X N__law_refused "_law_refused" (defScope s__law_refused) g cdg (defBody s__law_refused) "_law_call" q (TRef X.K) := by
  intro f c' s H Q tl act hc h
  have O := exT T.ex
  have XF := xf_of O.exc_BadName
  refine ⟨_, pss_cons (ps_try_as (X := (cxOf C8.CX0 X.prog X.w X.K X.mg X.base N__law_refused "_law_refused" (defScope s__law_refused) g cdg X.A X.stack s H C8.E0).nox) (i := 1) (c := .ref (He.ga X.K "PlaneError")) (Wout := fun _ _ _ _ => False)
      (tb := fun W D σ H => ∃ Ech : XK, (∀ cls d (σ' : L2.St) H', Ech cls d H' → σ'.length = 3 → W cls d σ' H') ∧ σ[0]? = some (some (.ref f)) ∧ H c' = some (LamX.CodeO c' q) ∧ tl Ech H (fun _ H' => D.nx σ H'))
      rfl rfl sc__law_refused.nd rfl rfl ⟨rfl, by decide, .inl T.g_PlaneError⟩ LamX.takes0 (fun W pn xe tk _ => ?_)
      (fun a oe cls d pn hz hf => pss_cons (ps_set (i := 2) sc__law_refused.nd rfl (Or.inl rfl) (pe_lst (pa_cons (pe_callB (call_isED O.exc_BadName hz hf) (by rfl) T.n_isinstance (by decide +kernel) (pa_cons (pv 1) (pa_cons (pe_glob rfl T.g_BadField (v := .ref (He.ga X.K "BadField")) rfl) pa_nil)))
          (pa_cons (pe_callB (call_isED O.exc_BadName hz hf) (by rfl) T.n_isinstance (by decide +kernel) (pa_cons (pv 1) (pa_cons (pe_glob rfl T.g_BadKey (v := .ref (He.ga X.K "BadKey")) rfl) pa_nil)))
          (pa_cons (pe_callB (call_isED O.exc_BadName hz hf) (by rfl) T.n_isinstance (by decide +kernel) (pa_cons (pv 1) (pa_cons (pe_glob rfl T.g_BadKind (v := .ref (He.ga X.K "BadKind")) rfl) pa_nil)))
          (pa_cons (pe_callB (call_isED O.exc_BadName hz hf) (by rfl) T.n_isinstance (by decide +kernel) (pa_cons (pv 1) (pa_cons (pe_glob rfl T.g_BadLabels (v := .ref (He.ga X.K "BadLabels")) rfl) pa_nil))) pa_nil))))))
        (pss_cons (ps_set (i := 2) sc__law_refused.nd rfl (Or.inl rfl) (pe_op op_cat (pv 2) (pe_lst (pa_cons (pe_callB (call_isED O.exc_BadName hz hf) (by rfl) T.n_isinstance (by decide +kernel) (pa_cons (pv 1) (pa_cons (pe_glob rfl T.g_BadSelector (v := .ref (He.ga X.K "BadSelector")) rfl) pa_nil)))
          (pa_cons (pe_callB (call_isED O.exc_BadName hz hf) (by rfl) T.n_isinstance (by decide +kernel) (pa_cons (pv 1) (pa_cons (pe_glob rfl T.g_BadShape (v := .ref (He.ga X.K "BadShape")) rfl) pa_nil)))
          (pa_cons (pe_callB (call_isED O.exc_BadName hz hf) (by rfl) T.n_isinstance (by decide +kernel) (pa_cons (pv 1) (pa_cons (pe_glob rfl T.g_BadValue (v := .ref (He.ga X.K "BadValue")) rfl) pa_nil))) pa_nil))))))
        (pss_cons (ps_if (PW.pt (pw_or (pt_cmpR (show OpR _ _ (rIn X.K false) from op_in_seq) pe_bl (pv 2) (by rfl)) (pw_or (pt_not (pt_val (pe_callB (call_isED O.exc_BadName hz hf) (by rfl) T.n_isinstance (by decide +kernel) (pa_cons (pv 1) (pa_cons (pe_bltn rfl T.n_ValueError (by decide +kernel) (v := .ty "ValueError") rfl) pa_nil)))))
            (pw_or1 (pt_not (pt_val (pe_callB (show CallR _ (.builtin "isinstance") (rIsi X.K) from call_isi) (by rfl) T.n_isinstance (by decide +kernel) (pa_cons (pe_xf XF O.no_BadName_why hz hf (pv 1)) (pa_cons (pe_bltn rfl T.n_str (by decide +kernel) (v := .ty "str") rfl) pa_nil))))))))) (pss_one (ps_ret pe_str)) pss_nil)
        (pss_one (ps_ret (pe_ifExp (pt_val (pe_callB (call_isED O.exc_BadName hz hf) (by rfl) T.n_isinstance (by decide +kernel) (pa_cons (pv 1) (pa_cons (pe_glob rfl T.g_BadName (v := .ref (He.ga X.K "BadName")) rfl) pa_nil)))) (pe_callB (show CallR _ (.builtin "repr") (rRepr X.K) from call_repr (by exact hG) (by show X.A.units + 3 + 64 < cLine; omega)) (by rfl) T.n_repr (by decide +kernel) (pa_cons (pe_xf XF O.no_BadName_name hz hf (pv 1)) pa_nil)) pe_str))))))) (pss_one (ps_ret pe_str)), ?_⟩
  · refine ⟨fun pins s' σ H' D I h' => ?_⟩
    obtain ⟨Ech, hW, h1, h2, h3⟩ := h'
    exact (pss_one (ps_expr (act _ pn xe Ech _ _ (takes_len tk) hW))).run pins s' σ H' D I ⟨h1, h2, h3⟩
  · refine ⟨_, fun cls d σ' H' hE hl => ?_, rfl, hc, h⟩
    obtain ⟨rfl, dd, v, e, rfl, hdd, hod, hsh, k⟩ := hE
    match σ', hl with
    | [x0, x1, x2], _ =>
    refine ⟨true, O.exm_BadName_PlaneError, fun _ a na => ?_, fun z => by cases z⟩
    refine ⟨_, rfl, _, _, false, dd, _, rfl, rfl, rfl, hdd, (fun u r => by cases r; rfl), O.isi_BadName_BadField, ?_⟩
    refine ⟨_, rfl, _, _, false, dd, _, rfl, rfl, rfl, hdd, (fun u r => by cases r; rfl), O.isi_BadName_BadKey, ?_⟩
    refine ⟨_, rfl, _, _, false, dd, _, rfl, rfl, rfl, hdd, (fun u r => by cases r; rfl), O.isi_BadName_BadKind, ?_⟩
    refine ⟨_, rfl, _, _, false, dd, _, rfl, rfl, rfl, hdd, (fun u r => by cases r; rfl), O.isi_BadName_BadLabels, ?_⟩
    refine ⟨smallN (by show 4 ≤ 1000; decide), fun p hp => ?_⟩
    have S := Same.new (u := .lst [.bl false, .bl false, .bl false, .bl false]) hp
    have gp : upd H' p (.lst [.bl false, .bl false, .bl false, .bl false]) p = some (.lst [.bl false, .bl false, .bl false, .bl false]) := upd_same
    have hd2 := S _ _ hdd
    generalize upd H' p (.lst [.bl false, .bl false, .bl false, .bl false]) = H2 at S gp hd2 ⊢
    refine ⟨_, rfl, ?_⟩
    refine ⟨_, rfl, _, _, false, dd, _, rfl, rfl, rfl, hd2, (fun u r => by cases r; rfl), O.isi_BadName_BadSelector, ?_⟩
    refine ⟨_, rfl, _, _, false, dd, _, rfl, rfl, rfl, hd2, (fun u r => by cases r; rfl), O.isi_BadName_BadShape, ?_⟩
    refine ⟨_, rfl, _, _, false, dd, _, rfl, rfl, rfl, hd2, (fun u r => by cases r; rfl), O.isi_BadName_BadValue, ?_⟩
    refine ⟨smallN (by show 3 ≤ 1000; decide), fun p2 hp2 => ?_⟩
    have S2 := Same.new (u := .lst [.bl false, .bl false, .bl false]) hp2
    have gp2 : upd H2 p2 (.lst [.bl false, .bl false, .bl false]) p2 = some (.lst [.bl false, .bl false, .bl false]) := upd_same
    have gp' := S2 _ _ gp
    have hd3 := S2 _ _ hd2
    have S02 := Same.trans' S S2
    generalize upd H2 p2 (.lst [.bl false, .bl false, .bl false]) = H3 at S2 gp2 gp' hd3 S02 ⊢
    refine ⟨p, p2, _, _, rfl, rfl, gp', gp2, smallN (by show 7 ≤ 1000; decide), fun p3 hp3 => ?_⟩
    have S3 := Same.new (u := .lst ([.bl false, .bl false, .bl false, .bl false] ++ [.bl false, .bl false, .bl false])) hp3
    have gp3 : upd H3 p3 (.lst ([.bl false, .bl false, .bl false, .bl false] ++ [.bl false, .bl false, .bl false])) p3 = some (.lst [.bl false, .bl false, .bl false, .bl false, .bl false, .bl false, .bl false]) := upd_same
    have hd4 := S3 _ _ hd3
    have S03 := Same.trans' S02 S3
    generalize upd H3 p3 (.lst ([.bl false, .bl false, .bl false, .bl false] ++ [.bl false, .bl false, .bl false])) = H4 at S3 gp3 hd4 S03 ⊢
    refine ⟨_, rfl, p3, _, rfl, .inl (SqL.of gp3), rfl, rfl, _, rfl, iteF ?_⟩
    refine ⟨_, rfl, _, _, true, dd, _, rfl, rfl, rfl, hd4, (fun u r => by cases r; rfl), O.isi_BadName_ValueError, _, rfl, iteF ?_⟩
    refine ⟨_, rfl, rfl, rfl, dd, _, _, rfl, hd4, rfl, ?_⟩
    obtain ⟨u, h1, h2⟩ := vl_str (K := X.K) (H := H4) (x := .str "name") (.inl trivial)
    refine ⟨_, .ty "str", _, _, _, rfl, .ty "str", h1, h2, _, rfl, iteF ?_⟩
    refine ⟨_, rfl, _, _, true, dd, _, rfl, rfl, rfl, hd4, (fun u r => by cases r; rfl), O.isi_BadName_BadName, _, rfl, iteT ?_⟩
    exact ⟨_, rfl, rfl, rfl, dd, _, _, rfl, hd4, rfl, v, e, rfl, (hod.same S03).shw, hsh.1, hsh.2.1, hsh.2.2, k _ S03⟩

/-! ### what stays where lambdas are made -/
/-- the tables and their code objects stay where the source of draws is written -/
theorem tabs_keep {T : List (Addr × Str)} {a : Addr} {n : Nat} {H H' : Hp} (w : WellAt H a n) (k : Keep a H H') (t : LamX.Tabs T H) : LamX.Tabs T H' := fun p hp => by
  obtain ⟨ps, h1, h2, h3⟩ := t p hp
  obtain ⟨u, hu, x, y, rfl, _⟩ := w
  refine ⟨ps, k _ _ (fun z => by rw [z, hu] at h1; cases h1) h1, h2, fun pos cv hc => ?_⟩
  obtain ⟨c, e, hcc⟩ := h3 pos cv hc
  exact ⟨c, e, k _ _ (fun z => by rw [z, hu] at hcc; cases hcc) hcc⟩
/-- all but the source and the tables stays -/
def KeepN (a : Addr) (H H' : Hp) : Prop := ∀ b o, b ≠ a → (∀ ps, o ≠ .tbl ps) → H b = some o → H' b = some o
theorem KeepN.of {a : Addr} {H H' : Hp} (k : Keep a H H') : KeepN a H H' := fun b o n _ h => k b o n h
theorem KeepN.same {a : Addr} {H H' : Hp} (k : Same H H') : KeepN a H H' := fun b o n _ h => k b o h
theorem KeepN.ext {a : Addr} {H H' : Hp} (k : LamX.ExtN H H') : KeepN a H H' := fun b o _ n h => k b o h n
theorem KeepN.trans {a : Addr} {H H1 H2 : Hp} (x : KeepN a H H1) (y : KeepN a H1 H2) : KeepN a H H2 := fun b o n m h => y b o n m (x b o n m h)
theorem KeepN.refl (a : Addr) (H : Hp) : KeepN a H H := fun _ _ _ _ h => h
theorem extN_same {H H' : Hp} (s : Same H H') : LamX.ExtN H H' := fun b o h _ => s b o h
theorem extN_trans {H H1 H2 : Hp} (x : LamX.ExtN H H1) (y : LamX.ExtN H1 H2) : LamX.ExtN H H2 := fun b o h n => y b o (x b o h n) n
theorem well_extN {a : Addr} {n : Nat} {H H' : Hp} (w : WellAt H a n) (x : LamX.ExtN H H') : WellAt H' a n := by
  obtain ⟨u, hu, y, z, rfl, o⟩ := w
  exact ⟨_, x _ _ hu (fun _ z => by cases z), y, z, rfl, o⟩
theorem well_same {a : Addr} {n : Nat} {H H' : Hp} (w : WellAt H a n) (x : Same H H') : WellAt H' a n := by
  obtain ⟨u, hu, o⟩ := w; exact ⟨u, x _ _ hu, o⟩

/-! ### values that are no names -/
def OddV (H : Hp) (x : V) : Prop := (∃ d, OdD H x d ∧ Shd d) ∧ Shrt x
theorem OddV.go {H H' : Hp} {v : V} (h : OddV H v) (s : ∀ a o, v = .ref a → (∀ ps, o ≠ .tbl ps) → H a = some o → H' a = some o) : OddV H' v := by
  obtain ⟨⟨d, h1, h2⟩, h3⟩ := h
  exact ⟨⟨d, h1.go s, h2⟩, h3⟩
theorem OddV.same {H H' : Hp} {v : V} (h : OddV H v) (s : Same H H') : OddV H' v := h.go fun a o _ _ e => s a o e
theorem OddV.ext {H H' : Hp} {v : V} (h : OddV H v) (s : LamX.ExtN H H') : OddV H' v := h.go fun a o _ n e => s a o e n
theorem OdD.ne {H : Hp} {v : V} {d : PyData} {a b : Addr} {n : Nat} (h : OdD H v d) (w : WellAt H a n) (e : v = .ref b) : b ≠ a := by
  obtain ⟨u, hu, x, y, rfl, _⟩ := w
  intro z
  subst z
  rcases h with ⟨f, _⟩ | ⟨a, xs, e', g, l1, _⟩ | ⟨a, xs, e', g, _⟩ | ⟨a, e', g, _⟩
  · rw [e] at f; exact f
  · rw [e] at e'; cases e'; rw [hu] at g; cases g; exact absurd l1 (by show ¬ 3 ≤ 1; decide)
  · rw [e] at e'; cases e'; rw [hu] at g; cases g
  · rw [e] at e'; cases e'; rw [hu] at g; cases g
theorem OddV.keepN {H H' : Hp} {v : V} {a : Addr} {n : Nat} (h : OddV H v) (w : WellAt H a n) (k : KeepN a H H') : OddV H' v := by
  obtain ⟨⟨d, h1, h2⟩, h3⟩ := h
  exact ⟨⟨d, h1.go fun b o e nt g => k b o (h1.ne w e) nt g, h2⟩, h3⟩
theorem OddV.vl {H : Hp} {v : V} (h : OddV H v) : Vl H v := by
  obtain ⟨⟨d, h1, h2⟩, h3⟩ := h
  exact h1.vl
theorem fits_shd {b dep : Nat} {d : PyData} (h : Fit b dep d) (h1 : dep ≤ 60) (h2 : b ≤ 2 ^ 20) : Shd d := h.shown h1 h2
theorem fit_asc {z : Str} (h1 : z.length ≤ 100000) (h2 : Asc (tl z)) : Fit 100000 0 (.str z) := fit_str (by rw [size_tl, ← len_tl]; exact h1) (List.all_eq_true.mpr fun c hc => decide_eq_true (by have := h2 c hc; omega))
theorem odd_str {H : Hp} {z : Str} (h1 : z.length ≤ 100000) (h2 : Asc (tl z)) : OddV H (.str z) := ⟨⟨_, .inl ⟨trivial, rfl⟩, fits_shd (fit_asc h1 h2) (by decide) (by decide)⟩, fun z' e => by cases e; exact h1⟩
theorem odd_non {H : Hp} : OddV H .non := ⟨⟨_, .inl ⟨trivial, rfl⟩, fits_shd (b := 0) (dep := 0) fit_none (by decide) (by decide)⟩, fun z e => by cases e⟩
theorem odd_bl {H : Hp} (b : Bool) : OddV H (.bl b) := ⟨⟨_, .inl ⟨trivial, rfl⟩, fits_shd (b := 0) (dep := 0) (fit_bool b) (by decide) (by decide)⟩, fun z e => by cases e⟩
theorem odd_int {H : Hp} {i : Int} (h : i.natAbs < 10 ^ 12) : OddV H (.int i) := ⟨⟨_, .inl ⟨trivial, rfl⟩, fits_shd (b := 0) (dep := 0) (fit_int h) (by decide) (by decide)⟩, fun z e => by cases e⟩
theorem odd_big {H : Hp} : OddV H (.int 1000000000000000000000000000000) := ⟨⟨_, .inl ⟨trivial, rfl⟩, by simp only [dOf, PyData.showable]; decide +kernel, by simp [dOf, PyData.depth], by rw [sizeLine_eq]; decide +kernel⟩, fun z e => by cases e⟩
theorem odd_nil {H : Hp} {a : Addr} (g : H a = some (.lst [])) (n : a ≠ sysModules) : OddV H (.ref a) :=
  ⟨⟨_, .inr (.inl ⟨a, [], rfl, g, Nat.zero_le _, n, (fun _ h => by cases h), rfl⟩), fits_shd (fit_list (n := 0) (b := 0) (dep := 0) (fun _ h => by cases h) (by decide)) (by decide) (by decide)⟩, fun z e => by cases e⟩
theorem odd_one {H : Hp} {a : Addr} {z : Str} (g : H a = some (.lst [.str z])) (n : a ≠ sysModules) (h1 : z.length ≤ 100000) (h2 : Asc (tl z)) : OddV H (.ref a) :=
  ⟨⟨_, .inr (.inl ⟨a, [.str z], rfl, g, Nat.le_refl 1, n, (fun x h => by rw [List.mem_singleton.mp h]; trivial), rfl⟩), fits_shd (fit_list (n := 1) (b := 100000) (dep := 0) (fun d h => by rw [List.mem_singleton.mp h]; exact fit_asc h1 h2) (by show 1 ≤ 1; decide)) (by decide) (by decide)⟩, fun z e => by cases e⟩
theorem odd_tup {H : Hp} {a : Addr} {z : Str} (g : H a = some (.tup [.str z])) (h1 : z.length ≤ 100000) (h2 : Asc (tl z)) : OddV H (.ref a) :=
  ⟨⟨_, .inr (.inr (.inl ⟨a, [.str z], rfl, g, (fun x h => by rw [List.mem_singleton.mp h]; trivial), rfl⟩)), fits_shd (fit_tup (n := 1) (b := 100000) (dep := 0) (fun d h => by rw [List.mem_singleton.mp h]; exact fit_asc h1 h2) (by show 1 ≤ 1; decide)) (by decide) (by decide)⟩, fun z e => by cases e⟩
theorem odd_dic {H : Hp} {a : Addr} (g : H a = some (.dK [])) : OddV H (.ref a) :=
  ⟨⟨_, .inr (.inr (.inr ⟨a, rfl, g, rfl⟩)), fits_shd (fit_dict (n := 0) (b := 0) (dep := 0) (fun _ h => by cases h) (by decide)) (by decide) (by decide)⟩, fun z e => by cases e⟩
/-! long texts -/
theorem rep_len {z : Str} {n : Nat} (h : 1 < n) (hz : z.length ≠ 0) : (strRep z (n : Int)).length = n * z.length := by
  unfold strRep
  rw [if_neg (by omega), if_neg (by simp only [Bool.or_eq_true, beq_iff_eq]; omega)]
  show (List.foldl (· ++ ·) #[] (List.replicate (n : Int).toNat z.cps)).size = _
  rw [rep_size, Int.toNat_natCast]
  show 0 + n * z.cps.size = n * z.cps.size
  omega
theorem rep_lenI {z : Str} {i : Int} (h : 1 < i) (hz : z.length ≠ 0) : (strRep z i).length = i.toNat * z.length := by
  obtain ⟨n, rfl⟩ := Int.eq_ofNat_of_zero_le (show 0 ≤ i by omega)
  exact rep_len (by omega) hz
theorem rep_mem {x : Array Nat} {c : Nat} : ∀ (k : Nat) (acc : Array Nat), c ∈ ((List.replicate k x).foldl (· ++ ·) acc).toList → c ∈ acc.toList ∨ c ∈ x.toList
  | 0, acc, h => .inl h
  | k + 1, acc, h => by
    rw [List.replicate_succ, List.foldl_cons] at h
    rcases rep_mem k _ h with h | h
    · rw [Array.toList_append] at h
      exact List.mem_append.mp h
    · exact .inr h
theorem rep_asc {z : Str} {n : Int} (h : Asc (tl z)) : Asc (tl (strRep z n)) := fun c hc => by
  unfold strRep at hc
  split at hc
  · cases hc
  · split at hc
    · exact h c hc
    · rcases rep_mem _ _ hc with q | q
      · cases q
      · exact h c q
theorem tl_app (x y : Str) : tl (x ++ y) = tl x ++ tl y := Array.toList_append ..
theorem asc_app {x y : Str} (hx : Asc (tl x)) (hy : Asc (tl y)) : Asc (tl (x ++ y)) := fun c hc => by
  rw [tl_app] at hc
  rcases List.mem_append.mp hc with q | q
  · exact hx c q
  · exact hy c q
theorem asc_of {z : Str} (h : ((tl z).all fun c => decide (c < 128)) = true) : Asc (tl z) := fun c hc => of_decide_eq_true (List.all_eq_true.mp h c hc)
theorem name_long {z : Str} (h : 22 < z.length) : nameV (.str z) = false := by
  have h' : 22 < (tl z).length := by rw [← len_tl]; exact h
  show (userL (tl z) || (apartL (tl z)).isSome) = false
  have h1 : userL (tl z) = false := by
    cases e : userL (tl z) with
    | false => rfl
    | true => have := (userL_len e).2; omega
  have h2 : apartL (tl z) = none := apart_long h'
  rw [h1, h2]
  rfl
theorem maker_long {z : Str} (h : 22 < z.length) (c : Nat) : makerV (.str z) c = false := by
  have h' : 22 < (tl z).length := by rw [← len_tl]; exact h
  show (userL (tl z) || (c == 115 && isR (apartL (tl z)))) = false
  have h1 : userL (tl z) = false := by
    cases e : userL (tl z) with
    | false => rfl
    | true => have := (userL_len e).2; omega
  have h2 : apartL (tl z) = none := apart_long h'
  rw [h1, h2]
  cases c == 115 <;> rfl
def NoN (H : Hp) (x : V) : Prop := OddV H x ∧ nameV x = false
theorem non_lit {H : Hp} {z : Str} (h : (decide (z.length ≤ 100) && (((tl z).all fun c => decide (c < 128)) && !nameV (.str z))) = true) : NoN H (.str z) := by
  simp only [Bool.and_eq_true, decide_eq_true_eq, Bool.not_eq_true'] at h
  exact ⟨odd_str (by omega) (asc_of h.2.1), h.2.2⟩
theorem user_dash {l : List Nat} (h : 45 ∈ l) : userL l = false := by
  cases e : userL l with
  | false => rfl
  | true => exact absurd h (user_nodash e)
theorem non_long {H : Hp} {z : Str} (h : 22 < z.length ∧ z.length ≤ 100000) (ha : Asc (tl z)) : NoN H (.str z) := ⟨odd_str h.2 ha, name_long h.1⟩
theorem non_rep {H : Hp} {x y : Str} {i : Int} (hx : x.length ≤ 100) (hy : y.length ≤ 10 ∧ y.length ≠ 0) (hi : 30 ≤ i ∧ i ≤ 9000) (ax : Asc (tl x)) (ay : Asc (tl y)) : NoN H (.str (x ++ strRep y i)) := by
  have l : (strRep y i).length = i.toNat * y.length := rep_lenI (by omega) hy.2
  have l1 : i.toNat * 1 ≤ i.toNat * y.length := Nat.mul_le_mul_left _ (by omega)
  have l2 : i.toNat * y.length ≤ i.toNat * 10 := Nat.mul_le_mul_left _ hy.1
  exact non_long (by rw [len_app]; omega) (asc_app ax (rep_asc ay))
/-! letters, makers and things that do not go together -/
theorem let_non {z : Str} (h : (match tl z with | [d] => !letters4.contains d | _ => true) = true) : letO (.str z) = none := by
  show letL (tl z) = none
  cases e : letL (tl z) with
  | none => rfl
  | some c =>
    obtain ⟨e1, e2⟩ := letL_some e
    rw [e1] at h
    simp [e2] at h
def NoM (x : V) : Prop := ∀ c ∈ letters4, makerV x c = false
theorem nom_lit {z : Str} (h : (letters4.all fun c => !makerV (.str z) c) = true) : NoM (.str z) := fun c hc => by
  have := List.all_eq_true.mp h c hc
  simpa using this
theorem app_lit {x y : Str} (l : List Nat) (h : tl y = l) : tl (x ++ y) = tl x ++ l := by rw [tl_app, h]
theorem nom_made {zm : Str} {y : Str} {c : Nat} {w : What} (hu : userB zm = true) (hy : tl y = 45 :: c :: whatT w) (hp : Parts (tl zm) c w) (hc : c ≠ 114) : NoM (.str (zm ++ y)) := fun d hd => by
  have e : tl (zm ++ y) = madeT (tl zm) c w := by rw [tl_app, hy]; rfl
  show (userL (tl (zm ++ y)) || (d == 115 && isR (apartL (tl (zm ++ y))))) = false
  rw [e, made_user hp, made_apart hp]
  show (false || (d == 115 && (c == 114))) = false
  rw [show (c == 114) = false from beq_false_of_ne hc]
  cases d == 115 <;> rfl
theorem nom_dash {zm : Str} {y : Str} (hy : tl y = [45]) : NoM (.str (zm ++ y)) := fun d hd => by
  have e : tl (zm ++ y) = tl zm ++ 45 :: [] := by rw [tl_app, hy]
  have h1 : apartL (tl (zm ++ y)) = none := by
    refine apart_none fun m c r h _ => ?_
    rw [e, dash_at (tl zm) (by simp)] at h
    cases h
  show (userL (tl (zm ++ y)) || (d == 115 && isR (apartL (tl (zm ++ y))))) = false
  rw [h1, user_dash (by rw [e]; simp)]
  cases d == 115 <;> rfl
theorem nor5 {zm : Str} {y : Str} {c : Nat} (hy : tl y = 45 :: [114, 53]) (hc : c ≠ 115) : makerV (.str (zm ++ y)) c = false := by
  show (userL (tl (zm ++ y)) || (c == 115 && isR (apartL (tl (zm ++ y))))) = false
  rw [user_dash (by rw [tl_app, hy]; simp), show (c == 115) = false from beq_false_of_ne hc]
  rfl
def NoW (x : V) : Prop := ∀ c ∈ letters4, c ≠ 110 → whatO c x = none
theorem now_str {z : Str} : NoW (.str z) := fun c _ hc => by rw [whatO_str, if_neg fun h => hc h.1]
theorem now_int {i : Int} (h : i < 0 ∨ 999999 < i) : NoW (.int i) := fun c _ hc => by
  rw [whatO_int, if_neg fun h' => ?_]
  have : hiOf c ≤ 999999 := by unfold hiOf; split <;> decide
  omega
theorem now_other {x : V} (h : ∀ c, whatO c x = none) : NoW x := fun c _ _ => h c
theorem inl_raised {K : PySem.W.Frag} {H : Hp} {E : XK} {x y t v0 : V} (mo : madeO x y t = .inl v0) (h : Raised (cBN K) H E (bnF v0)) : ∀ v, madeO x y t = .inl v → Raised (cBN K) H E (bnF v) := fun v e => by rw [mo] at e; cases e; exact h
theorem inl_no {x y t v0 : V} {P : List Nat → Prop} (mo : madeO x y t = .inl v0) : ∀ l, madeO x y t = .inr l → P l := fun l e => by rw [mo] at e; cases e
theorem inr_raised {K : PySem.W.Frag} {H : Hp} {E : XK} {x y t : V} {l : List Nat} (mo : madeO x y t = .inr l) : ∀ v, madeO x y t = .inl v → Raised (cBN K) H E (bnF v) := fun v e => by rw [mo] at e; cases e
theorem letO_of {z : Str} {c : Nat} (h : tl z = [c]) (hc : c ∈ letters4) : letO (.str z) = some c := by
  show letL (tl z) = _
  rw [h, letL_one, if_pos hc]
theorem made_m {x t : V} {z : Str} {c : Nat} (h : tl z = [c]) (hc : c ∈ letters4) (hm : makerV x c = false) : madeO x (.str z) t = .inl x := by
  unfold madeO
  rw [letO_of h hc]
  show (if makerV x c = true then _ else _) = _
  rw [hm]
  rfl
theorem made_w {zm : Str} {t : V} {z : Str} {c : Nat} (h : tl z = [c]) (hc : c ∈ letters4) (hu : userB zm = true) (hw : whatO c t = none) : madeO (.str zm) (.str z) t = .inl t := by
  unfold madeO
  rw [letO_of h hc]
  show (if makerV (.str zm) c = true then _ else _) = _
  rw [show makerV (.str zm) c = true from maker_user hu, if_pos rfl, hw]
theorem made_y {zm : Str} {t : V} {z : Str} {c : Nat} {w : What} (h : tl z = [c]) (hc : c ∈ letters4) (hu : userB zm = true) (hw : whatO c t = some w) : madeO (.str zm) (.str z) t = .inr (madeT (tl zm) c w) := by
  unfold madeO
  rw [letO_of h hc]
  show (if makerV (.str zm) c = true then _ else _) = _
  rw [show makerV (.str zm) c = true from maker_user hu, if_pos rfl, hw]

/-! ### the law -/
theorem room100 {k : Nat} {A : Around} (r : Room k A) : A.units + 100 < cLine := by have := r.un; omega
def sp_law (K : PySem.W.Frag) : Sp := fun vs H Q _ => ∃ (a : Addr) (ns : List Int), vs = [.ref a] ∧ SqL K H a (ns.map V.int) ∧ ns.length ≤ 63 ∧ LamX.Tabs (TLs K) H ∧ ∀ H', Q (.bl true) H'
theorem cut_mem {xs : List V} {lo hi : Option Int} {y : V} (h : y ∈ cutV xs lo hi) : y ∈ xs := List.mem_of_mem_drop (List.mem_of_mem_take h)
theorem cut_int {ns : List Int} {lo hi : Option Int} {x : V} (h : x ∈ cutV (ns.map V.int) lo hi) : ∃ i, x = .int i := by
  obtain ⟨i, _, rfl⟩ := List.mem_map.mp (cut_mem h)
  exact ⟨i, rfl⟩
theorem all_cons {α : Type} {P : α → Prop} {x : α} {xs : List α} (h : P x) (t : ∀ y ∈ xs, P y) : ∀ y ∈ x :: xs, P y := fun y hy => by
  rcases List.mem_cons.mp hy with rfl | hy
  · exact h
  · exact t y hy
theorem all_nil {α : Type} {P : α → Prop} : ∀ y ∈ ([] : List α), P y := fun y hy => by cases hy
theorem all_app {α : Type} {P : α → Prop} {xs ys : List α} (h : ∀ y ∈ xs, P y) (t : ∀ y ∈ ys, P y) : ∀ y ∈ xs ++ ys, P y := fun y hy => by
  rcases List.mem_append.mp hy with hy | hy
  · exact h y hy
  · exact t y hy
theorem NoN.same {H H' : Hp} {x : V} (h : NoN H x) (s : Same H H') : NoN H' x := ⟨h.1.same s, h.2⟩
theorem NoN.ext {H H' : Hp} {x : V} (h : NoN H x) (s : LamX.ExtN H H') : NoN H' x := ⟨h.1.ext s, h.2⟩
theorem ok_law {P : Program} {w : World} {K : PySem.W.Frag} {mg : Str → Option Value} {base : Heap} {fd : FuncData} (T : Txt K mg w) (F : FnP K "law" s_law [] fd) (TB : TbB K mg base) : FnG P w K mg base CX0 120 (He.ga K "law") fd ps_law (sp_law K) := by
  obtain ⟨fd__law_source, F__law_source⟩ := T.d__law_source
  have G__law_source := ok__law_source (P := P) (w := w) (base := base) T F__law_source
  have k__law_source := F__law_source.kp
  have b__law_source := bi__law_source F__law_source
  obtain ⟨fd__law_user_name, F__law_user_name⟩ := T.d__law_user_name
  have G__law_user_name := ok__law_user_name (P := P) (w := w) (base := base) T F__law_user_name
  have k__law_user_name := F__law_user_name.kp
  have b__law_user_name := bi__law_user_name F__law_user_name
  obtain ⟨fd__law_pick, F__law_pick⟩ := T.d__law_pick
  have G__law_pick := ok__law_pick (P := P) (w := w) (base := base) T F__law_pick
  have k__law_pick := F__law_pick.kp
  have b__law_pick := bi__law_pick F__law_pick
  obtain ⟨fd__law_cell_at, F__law_cell_at⟩ := T.d__law_cell_at
  have G__law_cell_at := ok__law_cell_at (P := P) (w := w) (base := base) T F__law_cell_at
  have k__law_cell_at := F__law_cell_at.kp
  have b__law_cell_at := bi__law_cell_at F__law_cell_at
  obtain ⟨fd_is_name, F_is_name⟩ := T.d_is_name
  have G_is_name := ok_is_name (P := P) (w := w) (base := base) T F_is_name
  have k_is_name := F_is_name.kp
  have b_is_name := bi_is_name F_is_name
  obtain ⟨fd_is_user_name, F_is_user_name⟩ := T.d_is_user_name
  have G_is_user_name := ok_is_user_name (P := P) (w := w) (base := base) T F_is_user_name
  have k_is_user_name := F_is_user_name.kp
  have b_is_user_name := bi_is_user_name F_is_user_name
  obtain ⟨fd_made_name, F_made_name⟩ := T.d_made_name
  have G_made_name := ok_made_name (P := P) (w := w) (base := base) T F_made_name
  have k_made_name := F_made_name.kp
  have b_made_name := bi_made_name F_made_name
  obtain ⟨fd_taken_apart, F_taken_apart⟩ := T.d_taken_apart
  have G_taken_apart := ok_taken_apart (P := P) (w := w) (base := base) T F_taken_apart
  have k_taken_apart := F_taken_apart.kp
  have b_taken_apart := bi_taken_apart F_taken_apart
  obtain ⟨fd__law_refused, F__law_refused⟩ := T.d__law_refused
  have k__law_refused := F__law_refused.kp
  have b__law_refused := bi__law_refused F__law_refused
  obtain ⟨_, _, _, _, _, _, _, _, _, _, rfl, lk__law_refused, hcg__law_refused, _, _⟩ := F__law_refused.ex
  have vis__law_refused : Vis (defScope s__law_refused) "_law_call" := Or.inl rfl
  refine okLG (p := ("law", none)) F sc_law (fun vs H Q E h => ?len) (fun A outer s H vs Q E hr hG h => ?body)
  case len => obtain ⟨a, ns, rfl, hS, hlen, hT, k⟩ := h; rfl
  case body =>
  obtain ⟨a, ns, rfl, hS, hlen, hT, k⟩ := h
  have hu := hu_of hr
  refine ⟨_, PSs.nox (pss_cons (ps_for PassesOwn.never rfl (pi_list (pe_op op_cat (pe_lst (pa_cons (pe_call G__law_cell_at (hr.mono (by first | decide | omega)) rfl T.g__law_cell_at k__law_cell_at b__law_cell_at .nil pass0 (pa_cons (pv 0) (pa_cons pe_int pa_nil))) pa_nil)) (pe_slice sl_list (pv 0) (po_some pe_int) (po_some pe_int)))) (pg_name (i := 1) sc_law.nd rfl (Or.inl rfl))
      (pss_cons (ps_set (i := 2) sc_law.nd rfl (Or.inl rfl) (pe_call G__law_source (hr.mono (by first | decide | omega)) rfl T.g__law_source k__law_source b__law_source .nil pass0 (pa_cons (pv 1) pa_nil)))
        (pss_cons (ps_set (i := 3) sc_law.nd rfl (Or.inl rfl) (pe_lst (pa_cons pe_non (pa_cons pe_int (pa_cons pe_bl (pa_cons pe_str (pa_cons pe_str (pa_cons pe_str (pa_cons pe_str (pa_cons pe_str (pa_cons pe_str (pa_cons (pe_lstB pa_nil) (pa_cons pe_dnewK (pa_cons (pe_tup (pa_cons pe_str pa_nil)) (pa_cons pe_str (pa_cons pe_str (pa_cons pe_str pa_nil)))))))))))))))))
        (pss_cons (ps_set (i := 3) sc_law.nd rfl (Or.inl rfl) (pe_op op_cat (pv 3) (pe_lst (pa_cons pe_str (pa_cons pe_str (pa_cons pe_str (pa_cons pe_str (pa_cons pe_str (pa_cons pe_str (pa_cons pe_str (pa_cons pe_str (pa_cons pe_str pa_nil))))))))))))
        (pss_cons (ps_set (i := 3) sc_law.nd rfl (Or.inl rfl) (pe_op op_cat (pv 3) (pe_lst (pa_cons pe_str (pa_cons pe_str (pa_cons (pe_op op_add_str pe_str (pe_op op_rep_str pe_str pe_int)) (pa_cons (pe_op op_add_str pe_str (pe_op op_rep_str pe_str pe_int)) (pa_cons (pe_op op_rep_str pe_str pe_int) pa_nil))))))))
        (pss_cons (ps_set (i := 3) sc_law.nd rfl (Or.inl rfl) (pe_op op_cat (pv 3) (pe_lst (pa_cons pe_str (pa_cons pe_str (pa_cons pe_str (pa_cons pe_str (pa_cons pe_str (pa_cons pe_str (pa_cons pe_str pa_nil))))))))))
        (pss_cons (ps_for PassesOwn.never rfl (pi_list (pv 3)) (pg_name (i := 4) sc_law.nd rfl (Or.inr rfl))
          (pss_cons (ps_if (PW.pt (pw_or (pt_cmpR op_notBl (pe_call G_is_name (hr.mono (by first | decide | omega)) rfl T.g_is_name k_is_name b_is_name .nil pass0 (pa_cons (pv 4) pa_nil)) pe_bl (nomark _)) (pw_or1 (pt_cmpR op_notBl (pe_call G_is_user_name (hr.mono (by first | decide | omega)) rfl T.g_is_user_name k_is_user_name b_is_user_name .nil pass0 (pa_cons (pv 4) pa_nil)) pe_bl (nomark _))))) (pss_one (ps_ret pe_bl)) pss_nil)
            (pss_one (ps_if (pt_cmpR op_ne (LamX.pe_lamcall (T := TLs K) (k := 60) (c := cLm K) (P := pLm K) rfl T.g__law_refused k__law_refused lk__law_refused hcg__law_refused b__law_refused sc__law_refused rfl vis__law_refused (refused_gives T hG (room100 hr)) TB rfl (List.mem_singleton.mpr rfl) (fun p hp _ => by rw [List.mem_singleton.mp hp]; rfl) (hr.mono (by first | decide | omega)) (LamX.lamS_by (by show LamX.lamSB (defScope s_law) _ = true; decide +kernel)) rfl (fun _ _ _ _ _ => rfl) (fun _ _ _ _ _ _ _ hr2 => (pe_call G_taken_apart (hr2.mono (by decide)) rfl T.g_taken_apart k_taken_apart b_taken_apart .nil (passes_call (takes_of rfl rfl rfl rfl) (fun _ _ _ _ h => h)) (pa_cons (pv 4) pa_nil)))) (pe_callB (call_repr hG hr.units) (by rfl) T.n_repr (by decide +kernel) (pa_cons (pv 4) pa_nil)) (nomark _)) (pss_one (ps_ret pe_bl)) pss_nil))))
        (pss_cons (ps_set (i := 5) sc_law.nd rfl (Or.inr rfl) (pe_call G__law_user_name (hr.mono (by first | decide | omega)) rfl T.g__law_user_name k__law_user_name b__law_user_name .nil pass0 (pa_cons (pv 2) pa_nil)))
        (pss_cons (ps_set (i := 6) sc_law.nd rfl (Or.inr rfl) (pe_call G__law_pick (hr.mono (by first | decide | omega)) rfl T.g__law_pick k__law_pick b__law_pick .nil pass0 (pa_cons (pv 2) (pa_cons (pe_lst (pa_cons pe_non (pa_cons pe_str (pa_cons pe_str (pa_cons pe_str (pa_cons pe_str (pa_cons pe_int (pa_cons pe_bl (pa_cons (pe_lstB (pa_cons pe_str pa_nil)) (pa_cons pe_dnewK (pa_cons pe_str pa_nil))))))))))) pa_nil))))
        (pss_cons (ps_set (i := 7) sc_law.nd rfl (Or.inl rfl) (pe_lst (pa_cons pe_non (pa_cons pe_str (pa_cons pe_str (pa_cons pe_int (pa_cons (pe_op op_add_str (pv 5) pe_str) (pa_cons (pe_op op_add_str (pv 5) pe_str) (pa_cons (pe_op op_add_str (pv 5) pe_str) (pa_cons (pe_lstB (pa_cons pe_str pa_nil)) (pa_cons pe_dnewK (pa_cons pe_str pa_nil))))))))))))
        (pss_cons (ps_set (i := 8) sc_law.nd rfl (Or.inr rfl) (pe_call G__law_pick (hr.mono (by first | decide | omega)) rfl T.g__law_pick k__law_pick b__law_pick .nil pass0 (pa_cons (pv 2) (pa_cons (pv 7) pa_nil))))
        (pss_cons (ps_set (i := 9) sc_law.nd rfl (Or.inr rfl) (pe_call G__law_pick (hr.mono (by first | decide | omega)) rfl T.g__law_pick k__law_pick b__law_pick .nil pass0 (pa_cons (pv 2) (pa_cons (pe_lst (pa_cons pe_non (pa_cons (pe_un un_neg pe_int) (pa_cons pe_bl (pa_cons pe_str (pa_cons pe_str (pa_cons pe_bl (pa_cons (pe_lstB pa_nil) (pa_cons pe_dnewK (pa_cons (pe_op op_pow pe_int pe_int) (pa_cons (pe_op op_pow pe_int pe_int) (pa_cons pe_str (pa_cons (pv 5) pa_nil))))))))))))) pa_nil))))
        (pss_cons (ps_if (pt_cmpR op_ne (LamX.pe_lamcall (T := TLs K) (k := 60) (c := cLm K) (P := pLm K) rfl T.g__law_refused k__law_refused lk__law_refused hcg__law_refused b__law_refused sc__law_refused rfl vis__law_refused (refused_gives T hG (room100 hr)) TB rfl (List.mem_singleton.mpr rfl) (fun p hp _ => by rw [List.mem_singleton.mp hp]; rfl) (hr.mono (by first | decide | omega)) (LamX.lamS_by (by show LamX.lamSB (defScope s_law) _ = true; decide +kernel)) rfl (fun _ _ _ _ _ => rfl) (fun _ _ _ _ _ _ _ hr2 => (pe_call G_made_name (hr2.mono (by decide)) rfl T.g_made_name k_made_name b_made_name .nil (passes_call (takes_of rfl rfl rfl rfl) (fun _ _ _ _ h => h)) (pa_cons (pv 8) (pa_cons (pv 6) (pa_cons (pv 9) pa_nil)))))) (pe_callB (call_repr hG hr.units) (by rfl) T.n_repr (by decide +kernel) (pa_cons (pv 6) pa_nil)) (nomark _)) (pss_one (ps_ret pe_bl)) pss_nil)
        (pss_cons (ps_for PassesOwn.never rfl (pi_tup (pe_tup (pa_cons pe_str (pa_cons pe_str (pa_cons pe_str (pa_cons pe_str pa_nil)))))) (pg_name (i := 10) sc_law.nd rfl (Or.inr rfl))
          (pss_cons (ps_if (pt_cmpR op_ne (LamX.pe_lamcall (T := TLs K) (k := 60) (c := cLm K) (P := pLm K) rfl T.g__law_refused k__law_refused lk__law_refused hcg__law_refused b__law_refused sc__law_refused rfl vis__law_refused (refused_gives T hG (room100 hr)) TB rfl (List.mem_singleton.mpr rfl) (fun p hp _ => by rw [List.mem_singleton.mp hp]; rfl) (hr.mono (by first | decide | omega)) (LamX.lamS_by (by show LamX.lamSB (defScope s_law) _ = true; decide +kernel)) rfl (fun _ _ _ _ _ => rfl) (fun _ _ _ _ _ _ _ hr2 => (pe_call G_made_name (hr2.mono (by decide)) rfl T.g_made_name k_made_name b_made_name .nil (passes_call (takes_of rfl rfl rfl rfl) (fun _ _ _ _ h => h)) (pa_cons (pv 8) (pa_cons (pv 10) (pa_cons (pv 9) pa_nil)))))) (pe_callB (call_repr hG hr.units) (by rfl) T.n_repr (by decide +kernel) (pa_cons (pv 8) pa_nil)) (nomark _)) (pss_one (ps_ret pe_bl)) pss_nil)
            (pss_cons (ps_set (i := 4) sc_law.nd rfl (Or.inr rfl) (pe_ix ix_list (pe_lst (pa_cons (pv 9) (pa_cons (pe_call G__law_pick (hr.mono (by first | decide | omega)) rfl T.g__law_pick k__law_pick b__law_pick .nil pass0 (pa_cons (pv 2) (pa_cons (pe_lst (pa_cons pe_int (pa_cons pe_non (pa_cons pe_bl (pa_cons pe_str (pa_cons pe_str (pa_cons pe_str pa_nil))))))) pa_nil))) pa_nil))) (pe_callTy call_int1 (by rfl) T.n_int (by decide +kernel) (pa_cons (pe_cmpR op_eq (pv 10) pe_str (nomark _)) pa_nil)) (fun _ _ => rfl)))
            (pss_one (ps_if (pt_cmpR op_ne (LamX.pe_lamcall (T := TLs K) (k := 60) (c := cLm K) (P := pLm K) rfl T.g__law_refused k__law_refused lk__law_refused hcg__law_refused b__law_refused sc__law_refused rfl vis__law_refused (refused_gives T hG (room100 hr)) TB rfl (List.mem_singleton.mpr rfl) (fun p hp _ => by rw [List.mem_singleton.mp hp]; rfl) (hr.mono (by first | decide | omega)) (LamX.lamS_by (by show LamX.lamSB (defScope s_law) _ = true; decide +kernel)) rfl (fun _ _ _ _ _ => rfl) (fun _ _ _ _ _ _ _ hr2 => (pe_call G_made_name (hr2.mono (by decide)) rfl T.g_made_name k_made_name b_made_name .nil (passes_call (takes_of rfl rfl rfl rfl) (fun _ _ _ _ h => h)) (pa_cons (pv 5) (pa_cons (pv 10) (pa_cons (pv 4) pa_nil)))))) (pe_callB (call_repr hG hr.units) (by rfl) T.n_repr (by decide +kernel) (pa_cons (pv 4) pa_nil)) (nomark _)) (pss_one (ps_ret pe_bl)) pss_nil)))))
        (pss_cons (ps_for PassesOwn.never rfl (pi_tup (pe_tup (pa_cons pe_str (pa_cons pe_str (pa_cons pe_str pa_nil))))) (pg_name (i := 10) sc_law.nd rfl (Or.inr rfl))
          (pss_one (ps_if (pt_cmpR op_ne (LamX.pe_lamcall (T := TLs K) (k := 60) (c := cLm K) (P := pLm K) rfl T.g__law_refused k__law_refused lk__law_refused hcg__law_refused b__law_refused sc__law_refused rfl vis__law_refused (refused_gives T hG (room100 hr)) TB rfl (List.mem_singleton.mpr rfl) (fun p hp _ => by rw [List.mem_singleton.mp hp]; rfl) (hr.mono (by first | decide | omega)) (LamX.lamS_by (by show LamX.lamSB (defScope s_law) _ = true; decide +kernel)) rfl (fun _ _ _ _ _ => rfl) (fun _ _ _ _ _ _ _ hr2 => (pe_call G_made_name (hr2.mono (by decide)) rfl T.g_made_name k_made_name b_made_name .nil (passes_call (takes_of rfl rfl rfl rfl) (fun _ _ _ _ h => h)) (pa_cons (pe_op op_add_str (pv 5) pe_str) (pa_cons (pv 10) (pa_cons (pv 9) pa_nil)))))) (pe_callB (call_repr hG hr.units) (by rfl) T.n_repr (by decide +kernel) (pa_cons (pe_op op_add_str (pv 5) pe_str) pa_nil)) (nomark _)) (pss_one (ps_ret pe_bl)) pss_nil)))
        (pss_cons (ps_set (i := 11) sc_law.nd rfl (Or.inr rfl) (pe_op op_add_str (pv 5) (pe_op op_rep_str pe_str pe_int)))
        (pss_cons (ps_if (pt_cmpR op_ne (LamX.pe_lamcall (T := TLs K) (k := 60) (c := cLm K) (P := pLm K) rfl T.g__law_refused k__law_refused lk__law_refused hcg__law_refused b__law_refused sc__law_refused rfl vis__law_refused (refused_gives T hG (room100 hr)) TB rfl (List.mem_singleton.mpr rfl) (fun p hp _ => by rw [List.mem_singleton.mp hp]; rfl) (hr.mono (by first | decide | omega)) (LamX.lamS_by (by show LamX.lamSB (defScope s_law) _ = true; decide +kernel)) rfl (fun _ _ _ _ _ => rfl) (fun _ _ _ _ _ _ _ hr2 => (pe_call G_made_name (hr2.mono (by decide)) rfl T.g_made_name k_made_name b_made_name .nil (passes_call (takes_of rfl rfl rfl rfl) (fun _ _ _ _ h => h)) (pa_cons (pv 11) (pa_cons pe_str (pa_cons pe_int pa_nil)))))) (pe_callB (call_repr hG hr.units) (by rfl) T.n_repr (by decide +kernel) (pa_cons (pv 11) pa_nil)) (nomark _)) (pss_one (ps_ret pe_bl)) pss_nil)
        (pss_one (ps_for PassesOwn.never rfl (pi_tup (pe_tup (pa_cons (pe_tup (pa_cons pe_str (pa_cons pe_int pa_nil))) (pa_cons (pe_tup (pa_cons pe_str (pa_cons pe_int pa_nil))) (pa_cons (pe_tup (pa_cons pe_str (pa_cons pe_int pa_nil))) pa_nil))))) (pg_tup rfl (pgs_cons (pg_name (i := 10) sc_law.nd rfl (Or.inr rfl)) (pgs_cons (pg_name (i := 12) sc_law.nd rfl (Or.inr rfl)) pgs_nil)))
          (pss_cons (ps_if (pt_cmpR op_ne (LamX.pe_lamcall (T := TLs K) (k := 60) (c := cLm K) (P := pLm K) rfl T.g__law_refused k__law_refused lk__law_refused hcg__law_refused b__law_refused sc__law_refused rfl vis__law_refused (refused_gives T hG (room100 hr)) TB rfl (List.mem_singleton.mpr rfl) (fun p hp _ => by rw [List.mem_singleton.mp hp]; rfl) (hr.mono (by first | decide | omega)) (LamX.lamS_by (by show LamX.lamSB (defScope s_law) _ = true; decide +kernel)) rfl (fun _ _ _ _ _ => rfl) (fun _ _ _ _ _ _ _ hr2 => (pe_call G_made_name (hr2.mono (by decide)) rfl T.g_made_name k_made_name b_made_name .nil (passes_call (takes_of rfl rfl rfl rfl) (fun _ _ _ _ h => h)) (pa_cons (pv 5) (pa_cons (pv 10) (pa_cons (pv 12) pa_nil)))))) (pe_callB (call_repr hG hr.units) (by rfl) T.n_repr (by decide +kernel) (pa_cons (pv 12) pa_nil)) (nomark _)) (pss_one (ps_ret pe_bl)) pss_nil)
            (pss_one (ps_if (pt_cmpR op_ne (LamX.pe_lamcall (T := TLs K) (k := 60) (c := cLm K) (P := pLm K) rfl T.g__law_refused k__law_refused lk__law_refused hcg__law_refused b__law_refused sc__law_refused rfl vis__law_refused (refused_gives T hG (room100 hr)) TB rfl (List.mem_singleton.mpr rfl) (fun p hp _ => by rw [List.mem_singleton.mp hp]; rfl) (hr.mono (by first | decide | omega)) (LamX.lamS_by (by show LamX.lamSB (defScope s_law) _ = true; decide +kernel)) rfl (fun _ _ _ _ _ => rfl) (fun _ _ _ _ _ _ _ hr2 => (pe_call G_made_name (hr2.mono (by decide)) rfl T.g_made_name k_made_name b_made_name .nil (passes_call (takes_of rfl rfl rfl rfl) (fun _ _ _ _ h => h)) (pa_cons (pv 5) (pa_cons (pv 10) (pa_cons (pe_op op_sub (pv 12) pe_int) pa_nil)))))) pe_str (nomark _)) (pss_one (ps_ret pe_bl)) pss_nil))))))))))))))))))))))
    (pss_one (ps_ret pe_bl))), ?_⟩
  refine ⟨_, rfl, a, ns, rfl, hS, fun i0 => ⟨smallN (by show 1 ≤ 1000; decide), fun p1 q1 => ?_⟩⟩
  have S1 := Same.new (u := .lst [.int i0]) q1
  have g1 : (upd H p1 (.lst [.int i0])) p1 = _ := upd_same
  generalize upd H p1 (.lst [.int i0]) = H1 at S1 g1 ⊢
  refine ⟨_, rfl, _, rfl, _, rfl, a, _, rfl, S1.seq hS, fun p2 q2 => ?_⟩
  have S2 := Same.new (u := .lst (cutV (ns.map V.int) (some 1) (some 6))) q2
  have g2 : (upd H1 p2 (.lst (cutV (ns.map V.int) (some 1) (some 6)))) p2 = _ := upd_same
  generalize upd H1 p2 (.lst (cutV (ns.map V.int) (some 1) (some 6))) = H2 at S2 g2 ⊢
  have hc : (cutV (ns.map V.int) (some 1) (some 6)).length ≤ 63 := Nat.le_trans (cutV_length _ _ _) (by rw [List.length_map]; exact hlen)
  refine ⟨p1, p2, _, _, rfl, rfl, S2 _ _ g1, g2, smallN (by show 1 + _ ≤ 1000; omega), fun p3 q3 => ?_⟩
  have S3 := Same.new (u := .lst ([.int i0] ++ cutV (ns.map V.int) (some 1) (some 6))) q3
  have g3 : (upd H2 p3 (.lst ([.int i0] ++ cutV (ns.map V.int) (some 1) (some 6)))) p3 = _ := upd_same
  generalize upd H2 p3 (.lst ([.int i0] ++ cutV (ns.map V.int) (some 1) (some 6))) = H3 at S3 g3 ⊢
  have T3 := hT.ext (Same.trans' (Same.trans' S1 S2) S3)
  have hints : ∀ x ∈ [V.int i0] ++ cutV (ns.map V.int) (some 1) (some 6), ∃ i, x = .int i := fun x hx => by
    rcases List.mem_append.mp hx with hx | hx
    · exact ⟨_, List.mem_singleton.mp hx⟩
    · exact cut_int hx
  generalize [V.int i0] ++ cutV (ns.map V.int) (some 1) (some 6) = cells at g3 hints ⊢
  refine ⟨p3, rfl, ⟨_, SqL.of g3⟩, for_list (K := K) (a := p3) (xs := cells) (fun i σ H' => ∃ v1 v2 v3 v4 v5 v6 v7 v8 v9 v10 v11 v12 : Option V, σ = [some (.ref a), v1, v2, v3, v4, v5, v6, v7, v8, v9, v10, v11, v12] ∧ H' p3 = some (.lst cells) ∧ LamX.Tabs (TLs K) H')
    ⟨_, _, _, _, _, _, _, _, _, _, _, _, rfl, g3, T3⟩ (fun i σ H' _ ⟨_, _, _, _, _, _, _, _, _, _, _, _, _, g, _⟩ => SqL.of g) ?_ (fun σ H' _ => k H')⟩
  rintro i x σ H4 hx ⟨v1, v2, v3, v4, v5, v6, v7, v8, v9, v10, v11, v12, rfl, g4, T4⟩
  obtain ⟨z, rfl⟩ := hints x (mem_at hx)
  refine ⟨_, rfl, z, rfl, fun aw u q5 hu5 => ?_⟩
  have S5 := Same.new (u := u) q5
  have w5 := well_upd (H := H4) (a := aw) hu5
  have n3 : p3 ≠ aw := ne_of_none g4 q5
  have g5 := S5 _ _ g4
  have T5 := T4.ext S5
  generalize upd H4 aw u = H5 at w5 g5 T5 ⊢
  clear S5 q5 g4 T4 S1 S2 S3 g1 g2 g3 T3 q1 q2 q3 hS
  -- the odds
  refine ⟨smallN (by show 0 ≤ 1000; decide), fun r1 y1 m1 => ?_⟩
  have E1 := Same.new (u := .lst []) y1
  have h1 : upd H5 r1 (.lst []) r1 = _ := upd_same
  generalize upd H5 r1 (.lst []) = H6 at E1 h1 ⊢
  intro r2 y2
  have E2 := Same.new (u := .dK []) y2
  have h2 : upd H6 r2 (.dK []) r2 = _ := upd_same
  generalize upd H6 r2 (.dK []) = H7 at E2 h2 ⊢
  refine ⟨smallN (by show 1 ≤ 1000; decide), fun r3 y3 => ?_⟩
  have E3 := Same.new (u := .tup [.str "a"]) y3
  have h3 : upd H7 r3 (.tup [.str "a"]) r3 = _ := upd_same
  generalize upd H7 r3 (.tup [.str "a"]) = H8 at E3 h3 ⊢
  have o1 : NoN H8 (.ref r1) := ⟨odd_nil (E3 _ _ (E2 _ _ h1)) m1, rfl⟩
  have o2 : NoN H8 (.ref r2) := ⟨odd_dic (E3 _ _ h2), rfl⟩
  have o3 : NoN H8 (.ref r3) := ⟨odd_tup h3 (by decide +kernel) (asc_of (by decide +kernel)), rfl⟩
  have S8 := Same.trans' (Same.trans' E1 E2) E3
  clear E1 E2 E3 h1 h2 h3 y1 y2 y3 m1
  refine ⟨smallN (by show 15 ≤ 1000; decide), fun r4 yy => ?_⟩
  generalize ee9 : upd H8 r4 _ = H9
  have E9 := lay_same ee9 yy
  have g9 := lay_at ee9
  clear ee9
  refine ⟨_, rfl, smallN (by show 9 ≤ 1000; decide), fun r5 yy => ?_⟩
  generalize ee9 : upd H9 r5 _ = Ha
  have Ea := lay_same ee9 yy
  have ga := lay_at ee9
  clear ee9
  refine ⟨r4, r5, _, _, rfl, rfl, Ea _ _ g9, ga, smallN (by show 24 ≤ 1000; decide), fun r6 yy => ?_⟩
  generalize ee9 : upd Ha r6 _ = Hb
  have Eb := lay_same ee9 yy
  have gb := lay_at ee9
  clear ee9
  refine ⟨_, rfl, _, _, rfl, rfl, (by decide +kernel), (by decide), (by decide), _, _, rfl, rfl, (by rw [rep_lenI (by decide) (by decide +kernel)]; exact small5 (by decide +kernel)), ?_⟩
  refine ⟨_, _, rfl, rfl, (by decide +kernel), (by decide), (by decide), _, _, rfl, rfl, (by rw [rep_lenI (by decide) (by decide +kernel)]; exact small5 (by decide +kernel)), ?_⟩
  refine ⟨_, _, rfl, rfl, (by decide +kernel), (by decide), (by decide), ?_⟩
  refine ⟨smallN (by show 5 ≤ 1000; decide), fun r7 yy => ?_⟩
  generalize ee9 : upd Hb r7 _ = Hc
  have Ec := lay_same ee9 yy
  have gc := lay_at ee9
  clear ee9
  refine ⟨r6, r7, _, _, rfl, rfl, Ec _ _ gb, gc, smallN (by show 29 ≤ 1000; decide), fun r8 yy => ?_⟩
  generalize ee9 : upd Hc r8 _ = Hd
  have Ed := lay_same ee9 yy
  have gd := lay_at ee9
  clear ee9
  refine ⟨_, rfl, smallN (by show 7 ≤ 1000; decide), fun r9 yy => ?_⟩
  generalize ee9 : upd Hd r9 _ = Hee
  have Ee := lay_same ee9 yy
  have ge := lay_at ee9
  clear ee9
  refine ⟨r8, r9, _, _, rfl, rfl, Ee _ _ gd, ge, smallN (by show 36 ≤ 1000; decide), fun po yy => ?_⟩
  generalize ee9 : upd Hee po _ = H9'
  have Ef := lay_same ee9 yy
  have gf := lay_at ee9
  clear ee9
  have S9 := Same.trans' E9 (Same.trans' Ea (Same.trans' Eb (Same.trans' Ec (Same.trans' Ed (Same.trans' Ee Ef)))))
  have odds := all_app (P := NoN H9') (all_app (all_app (xs := [V.non, V.int 5, V.bl true, V.str (Str.ofString ""), V.str (Str.ofString "A"), V.str (Str.ofString "1a"),
            V.str (Str.ofString "a_b"), V.str (Str.ofString "a b"), V.str (Str.ofString "elevensigns"), V.ref r1,
            V.ref r2, V.ref r3, V.str (Str.ofString "-s0"), V.str (Str.ofString "a-"), V.str (Str.ofString "a-s")] ) (ys := [V.str (Str.ofString "a-x1"), V.str (Str.ofString "a-s01"), V.str (Str.ofString "a-s100"),
            V.str (Str.ofString "a-s-1"), V.str (Str.ofString "a-r1000000"), V.str (Str.ofString "a-j0-s0"),
            V.str (Str.ofString "a-nb-s1"), V.str (Str.ofString "a-n"), V.str (Str.ofString "a-nA")]) (all_cons ⟨odd_non, rfl⟩ (all_cons ⟨odd_int (by decide), rfl⟩ (all_cons ⟨odd_bl _, rfl⟩ (all_cons (non_lit (by decide +kernel)) (all_cons (non_lit (by decide +kernel)) (all_cons (non_lit (by decide +kernel)) (all_cons (non_lit (by decide +kernel)) (all_cons (non_lit (by decide +kernel)) (all_cons (non_lit (by decide +kernel)) (all_cons (o1.same S9) (all_cons (o2.same S9) (all_cons (o3.same S9) (all_cons (non_lit (by decide +kernel)) (all_cons (non_lit (by decide +kernel)) (all_cons (non_lit (by decide +kernel)) all_nil)))))))))))))))
      (all_cons (non_lit (by decide +kernel)) (all_cons (non_lit (by decide +kernel)) (all_cons (non_lit (by decide +kernel)) (all_cons (non_lit (by decide +kernel)) (all_cons (non_lit (by decide +kernel)) (all_cons (non_lit (by decide +kernel)) (all_cons (non_lit (by decide +kernel)) (all_cons (non_lit (by decide +kernel)) (all_cons (non_lit (by decide +kernel)) all_nil))))))))))
      (ys := [V.str (Str.ofString "a-r"), V.str (Str.ofString "a-s0-s0"), V.str (Str.ofString "a" ++ strRep (Str.ofString "-s1") 1200), V.str (Str.ofString "a" ++ strRep (Str.ofString "-r1-s1") 600), V.str (strRep (Str.ofString "a") 5000)])
      (all_cons (non_lit (by decide +kernel)) (all_cons (non_lit (by decide +kernel)) (all_cons (non_rep (by decide +kernel) (by decide +kernel) (by decide) (asc_of (by decide +kernel)) (asc_of (by decide +kernel))) (all_cons (non_rep (by decide +kernel) (by decide +kernel) (by decide) (asc_of (by decide +kernel)) (asc_of (by decide +kernel)))
        (all_cons (non_long (by rw [rep_lenI (by decide) (by decide +kernel)]; decide +kernel) (rep_asc (asc_of (by decide +kernel)))) all_nil))))))
      (ys := [V.str (Str.ofString "web.1"), V.str (Str.ofString "web.1-s0"), V.str (Str.ofString "web-n.b"), V.str (Str.ofString "a~"), V.str (Str.ofString "a-r7."), V.str (Str.ofString "a/b-j3"), V.str (Str.ofString "web:s0")])
      (all_cons (non_lit (by decide +kernel)) (all_cons (non_lit (by decide +kernel)) (all_cons (non_lit (by decide +kernel)) (all_cons (non_lit (by decide +kernel)) (all_cons (non_lit (by decide +kernel)) (all_cons (non_lit (by decide +kernel)) (all_cons (non_lit (by decide +kernel)) all_nil)))))))
  have S10 := Same.trans' S8 S9
  have w10 := well_same w5 S10
  have g10 := S10 _ _ g5
  have T10 := T5.ext S10
  clear S8 S9 S10 E9 Ea Eb Ec Ed Ee Ef g9 ga gb gc gd ge o1 o2 o3
  generalize ([V.non, V.int 5, V.bl true, V.str (Str.ofString ""), V.str (Str.ofString "A"), V.str (Str.ofString "1a"),
            V.str (Str.ofString "a_b"), V.str (Str.ofString "a b"), V.str (Str.ofString "elevensigns"), V.ref r1,
            V.ref r2, V.ref r3, V.str (Str.ofString "-s0"), V.str (Str.ofString "a-"), V.str (Str.ofString "a-s")] ++ _ ++ _ ++ _) = os at gf odds
  refine ⟨_, rfl, po, rfl, ⟨_, SqL.of gf⟩, for_list (K := K) (a := po) (xs := os) (fun i σ H' => ∃ v4 : Option V, σ = [some (.ref a), some (.int z), some (.ref aw), some (.ref po), v4, v5, v6, v7, v8, v9, v10, v11, v12] ∧ LamX.ExtN H9' H' ∧ LamX.Tabs (TLs K) H')
    ⟨_, rfl, extN_same (Same.refl _), T10⟩ (fun i σ H' _ ⟨_, _, e, _⟩ => SqL.of (e _ _ gf (fun _ z => by cases z))) ?_ ?_⟩
  · rintro j x σ H11 hx ⟨v4, rfl, e11, T11⟩
    obtain ⟨hod, hnm⟩ := (odds x (mem_at hx)).ext e11
    have hus : userV x = false := by
      unfold nameV at hnm
      exact (Bool.or_eq_false_iff.mp hnm).1
    obtain ⟨⟨d, od, sd⟩, sx⟩ := hod
    refine ⟨_, rfl, x, rfl, od.vl, sx, fun H12 S12 => ?_⟩
    rw [hnm]
    refine ⟨_, _, rfl, rfl, _, rfl, iteF ?_⟩
    refine ⟨_, rfl, x, rfl, od.vl.same S12, sx, fun H13 S13 => ?_⟩
    rw [hus]
    refine ⟨_, _, rfl, rfl, _, rfl, iteF ?_⟩
    have S13 := Same.trans' S12 S13
    have T13 := T11.ext S13
    refine ⟨T13, fun H14 x14 T14 => ?_⟩
    have e14 := extN_trans (extN_same S13) x14
    have od14 := od.go fun a o _ n e => e14 a o e n
    refine ⟨_, rfl, x, rfl, od14.vl, sx, fun _ => fun dd H15 S15 hd => ⟨rfl, dd, x, d, rfl, hd, od14.same S15, sd, fun H16 S16 => ?_⟩, fun z => by rw [hnm] at z; cases z⟩
    have S16 := Same.trans' S15 S16
    have od16 := od14.same S16
    refine ⟨_, rfl, x, d, rfl, od16.shw, sd.1, sd.2.1, sd.2.2, rfl, _, rfl, ?_⟩
    rw [decide_eq_true (rfl : V.str d.shown = V.str d.shown)]
    refine iteF ⟨_, rfl, ?_, ?_⟩
    · exact extN_trans e11 (extN_trans e14 (extN_same S16))
    · exact T14.ext S16

  · rintro σ H11 ⟨v4, rfl, e11, T11⟩
    have w11 := well_extN w10 e11
    have g11 := e11 _ _ g10 (fun _ z => by cases z)
    clear e11 gf odds w5 g5 T5 w10 T10 g10
    refine ⟨_, rfl, aw, 0, rfl, w11, by decide, fun zm H12 n12 hu12 K12 w12 m12 => ?_⟩
    have g12 := K12 _ _ n3 g11
    have T12 := tabs_keep w11 K12 T11
    clear g11 T11 K12 w11
    -- the letter
    refine ⟨_, rfl, smallN (by show 1 ≤ 1000; decide), fun s1 yy m1 => ?_⟩
    generalize ee9 : upd H12 s1 _ = H13
    have S13 := lay_same ee9 yy
    have h13 := lay_at ee9
    clear ee9
    intro s2 yy
    generalize ee9 : upd H13 s2 _ = H14
    have S14 := lay_same ee9 yy
    have h14 := lay_at ee9
    clear ee9
    refine ⟨smallN (by show 10 ≤ 1000; decide), fun s3 yy => ?_⟩
    have ns3 : s3 ≠ aw := well_ne3 (well_same w12 (Same.trans' S13 S14)) yy
    generalize ee9 : upd H14 s3 _ = H15
    have S15 := lay_same ee9 yy
    have h15 := lay_at ee9
    clear ee9
    have S := Same.trans' S13 (Same.trans' S14 S15)
    have w15 := well_same w12 S
    have g15 := S _ _ g12
    have T15 := T12.ext S
    refine ⟨aw, n12, _, rfl, w15, by omega, .inl ⟨s3, _, rfl, h15, ns3, (by show 0 < 10; decide), (by show 10 ≤ 1000; decide), fun yl u16 n16 hyl m16 hu16 => ?_⟩⟩
    have lets : OddV H15 yl ∧ letO yl = none := by
      refine all_cons (P := fun y => OddV H15 y ∧ letO y = none) ⟨odd_non, rfl⟩ ?_ yl hyl
      refine all_cons ⟨odd_str (by decide +kernel) (asc_of (by decide +kernel)), let_non (by decide +kernel)⟩ ?_
      refine all_cons ⟨odd_str (by decide +kernel) (asc_of (by decide +kernel)), let_non (by decide +kernel)⟩ ?_
      refine all_cons ⟨odd_str (by decide +kernel) (asc_of (by decide +kernel)), let_non (by decide +kernel)⟩ ?_
      refine all_cons ⟨odd_str (by decide +kernel) (asc_of (by decide +kernel)), let_non (by decide +kernel)⟩ ?_
      refine all_cons ⟨odd_int (by decide), rfl⟩ ?_
      refine all_cons ⟨odd_bl _, rfl⟩ ?_
      refine all_cons ⟨odd_one (S15 _ _ (S14 _ _ h13)) m1 (by decide +kernel) (asc_of (by decide +kernel)), rfl⟩ ?_
      refine all_cons ⟨odd_dic (S15 _ _ h14), rfl⟩ ?_
      exact all_cons ⟨odd_str (by decide +kernel) (asc_of (by decide +kernel)), let_non (by decide +kernel)⟩ all_nil
    obtain ⟨ol, hl⟩ := lets
    have K16 : Keep aw H15 (upd H15 aw u16) := Keep.at_
    have w16 := well_upd (H := H15) (a := aw) hu16
    have g16 := K16 _ _ n3 g15
    have T16 := tabs_keep w15 K16 T15
    have ol := ol.keepN w15 (KeepN.of K16)
    generalize upd H15 aw u16 = H16 at w16 g16 T16 ol ⊢
    clear K16 w15 g15 T15 S S13 S14 S15 h13 h14 h15 hyl w12 g12 T12 m1 ns3
    -- makers that are none
    have lzm : zm.length ≤ 10 := by rw [len_tl]; exact (userL_len hu12).2
    have azm : Asc (tl zm) := user_asc hu12
    have le : ∀ {y : Str}, y.length ≤ 1000 → zm.length + y.length ≤ sizeLine := fun {y} h => small5 (by omega)
    refine ⟨_, rfl, _, _, rfl, rfl, le (by decide +kernel), _, rfl, _, _, rfl, rfl, le (by decide +kernel), _, rfl, _, _, rfl, rfl, le (by decide +kernel), smallN (by show 1 ≤ 1000; decide), fun s1 yy m1 => ?_⟩
    generalize ee9 : upd H16 s1 _ = H17
    have S17 := lay_same ee9 yy
    have h17 := lay_at ee9
    clear ee9
    intro s2 yy
    generalize ee9 : upd H17 s2 _ = H18
    have S18 := lay_same ee9 yy
    have h18 := lay_at ee9
    clear ee9
    refine ⟨smallN (by show 10 ≤ 1000; decide), fun s3 yy => ?_⟩
    have ns3 : s3 ≠ aw := well_ne3 (well_same w16 (Same.trans' S17 S18)) yy
    generalize ee9 : upd H18 s3 _ = H19
    have S19 := lay_same ee9 yy
    have h19 := lay_at ee9
    clear ee9
    have S := Same.trans' S17 (Same.trans' S18 S19)
    have w19 := well_same w16 S
    have g19 := S _ _ g16
    have T19 := T16.ext S
    have ol := ol.same S
    refine ⟨_, rfl, _, rfl, aw, n16, _, rfl, w19, by omega, .inl ⟨s3, _, rfl, h19, ns3, (by show 0 < 10; decide), (by show 10 ≤ 1000; decide), fun yb u20 n20 hyb m20 hu20 => ?_⟩⟩
    have lapp : ∀ {y : Str}, y.length ≤ 100 → (zm ++ y).length ≤ 100000 := fun {y} h => by rw [len_app]; omega
    have pm : ∀ {c : Nat}, makerL (tl zm) c = true := fun {c} => maker_user hu12
    have bads : OddV H19 yb ∧ NoM yb := by
      refine all_cons (P := fun y => OddV H19 y ∧ NoM y) ⟨odd_non, fun _ _ => rfl⟩ ?_ yb hyb
      refine all_cons ⟨odd_str (by decide +kernel) (asc_of (by decide +kernel)), nom_lit (by decide +kernel)⟩ ?_
      refine all_cons ⟨odd_str (by decide +kernel) (asc_of (by decide +kernel)), nom_lit (by decide +kernel)⟩ ?_
      refine all_cons ⟨odd_int (by decide), fun _ _ => rfl⟩ ?_
      refine all_cons ⟨odd_str (lapp (by decide +kernel)) (asc_app azm (asc_of (by decide +kernel))), nom_made (c := 115) (w := .n 0) hu12 (by decide +kernel) (parts_num (by decide) pm (by decide) (by decide)) (by decide)⟩ ?_
      refine all_cons ⟨odd_str (lapp (by decide +kernel)) (asc_app azm (asc_of (by decide +kernel))), nom_made (c := 110) (w := .t [98]) hu12 (by decide +kernel) (parts_text pm (by decide +kernel)) (by decide)⟩ ?_
      refine all_cons ⟨odd_str (lapp (by decide +kernel)) (asc_app azm (asc_of (by decide +kernel))), nom_dash (by decide +kernel)⟩ ?_
      refine all_cons ⟨odd_one (S19 _ _ (S18 _ _ h17)) m1 (by decide +kernel) (asc_of (by decide +kernel)), fun _ _ => rfl⟩ ?_
      refine all_cons ⟨odd_dic (S19 _ _ h18), fun _ _ => rfl⟩ ?_
      exact all_cons ⟨odd_str (by decide +kernel) (asc_of (by decide +kernel)), nom_lit (by decide +kernel)⟩ all_nil
    obtain ⟨ob, hb⟩ := bads
    have K20 : Keep aw H19 (upd H19 aw u20) := Keep.at_
    have w20 := well_upd (H := H19) (a := aw) hu20
    have g20 := K20 _ _ n3 g19
    have T20 := tabs_keep w19 K20 T19
    have ol := ol.keepN w19 (KeepN.of K20)
    have ob := ob.keepN w19 (KeepN.of K20)
    generalize upd H19 aw u20 = H20 at w20 g20 T20 ol ob ⊢
    clear K20 w19 g19 T19 S S17 S18 S19 h17 h18 h19 hyb w16 g16 T16 m1 ns3
    -- things
    refine ⟨_, rfl, _, rfl, ?_⟩
    refine ⟨smallN (by show 0 ≤ 1000; decide), fun s1 yy m1 => ?_⟩
    generalize ee9 : upd H20 s1 _ = H21
    have S21 := lay_same ee9 yy
    have h21 := lay_at ee9
    clear ee9
    intro s2 yy
    generalize ee9 : upd H21 s2 _ = H22
    have S22 := lay_same ee9 yy
    have h22 := lay_at ee9
    clear ee9
    refine ⟨_, _, rfl, rfl, ⟨by decide, by decide, by decide⟩, _, _, rfl, rfl, ⟨by decide, by decide, by decide⟩, _, rfl, smallN (by show 12 ≤ 1000; decide), fun s3 yy => ?_⟩
    have ns3 : s3 ≠ aw := well_ne3 (well_same w20 (Same.trans' S21 S22)) yy
    generalize ee9 : upd H22 s3 _ = H23
    have S23 := lay_same ee9 yy
    have h23 := lay_at ee9
    clear ee9
    have S := Same.trans' S21 (Same.trans' S22 S23)
    have w23 := well_same w20 S
    have g23 := S _ _ g20
    have T23 := T20.ext S
    have ol := ol.same S
    have ob := ob.same S
    refine ⟨aw, n20, _, rfl, w23, by omega, .inl ⟨s3, _, rfl, h23, ns3, (by show 0 < 12; decide), (by show 12 ≤ 1000; decide), fun yw u24 n24 hyw m24 hu24 => ?_⟩⟩
    have whats : OddV H23 yw ∧ NoW yw := by
      refine all_cons (P := fun y => OddV H23 y ∧ NoW y) ⟨odd_non, now_other fun _ => rfl⟩ ?_ yw hyw
      refine all_cons ⟨odd_int (by decide), now_int (.inl (by decide))⟩ ?_
      refine all_cons ⟨odd_bl _, now_other fun _ => rfl⟩ ?_
      refine all_cons ⟨odd_str (by decide +kernel) (asc_of (by decide +kernel)), now_str⟩ ?_
      refine all_cons ⟨odd_str (by decide +kernel) (asc_of (by decide +kernel)), now_str⟩ ?_
      refine all_cons ⟨odd_bl _, now_other fun _ => rfl⟩ ?_
      refine all_cons ⟨odd_nil (S23 _ _ (S22 _ _ h21)) m1, now_other fun _ => rfl⟩ ?_
      refine all_cons ⟨odd_dic (S23 _ _ h22), now_other fun _ => rfl⟩ ?_
      refine all_cons ⟨odd_int (by decide), now_int (.inr (by decide))⟩ ?_
      refine all_cons ⟨odd_big, now_int (.inr (by decide))⟩ ?_
      refine all_cons ⟨odd_str (by decide +kernel) (asc_of (by decide +kernel)), now_str⟩ ?_
      exact all_cons ⟨odd_str (by omega) azm, now_str⟩ all_nil
    obtain ⟨ow, hw⟩ := whats
    have K24 : Keep aw H23 (upd H23 aw u24) := Keep.at_
    have w24 := well_upd (H := H23) (a := aw) hu24
    have g24 := K24 _ _ n3 g23
    have T24 := tabs_keep w23 K24 T23
    have ol := ol.keepN w23 (KeepN.of K24)
    have ob := ob.keepN w23 (KeepN.of K24)
    have ow := ow.keepN w23 (KeepN.of K24)
    generalize upd H23 aw u24 = H24 at w24 g24 T24 ol ob ow ⊢
    clear K24 w23 g23 T23 S S21 S22 S23 h21 h22 h23 hyw w20 g20 T20 m1 ns3
    -- the letter is told first
    refine ⟨T24, fun H25 x25 T25 => ?_⟩
    have ol := ol.ext x25
    have ob := ob.ext x25
    have ow := ow.ext x25
    have w25 := well_extN w24 x25
    have g25 := x25 _ _ g24 (fun _ z => by cases z)
    clear x25 w24 g24 T24
    have mo : madeO yb yl yw = .inl yl := by unfold madeO; rw [hl]
    obtain ⟨⟨dl, odl, sdl⟩, sl⟩ := id ol
    refine ⟨_, rfl, _, rfl, _, rfl, yb, yl, yw, rfl, ob.vl, ol.vl, ow.vl, ob.2, ol.2, ow.2, inl_raised mo (fun dd H26 S26 hd => ⟨rfl, dd, yl, dl, rfl, hd, odl.same S26, sdl, fun H27 S27 => ?_⟩), inl_no mo⟩
    have S27 := Same.trans' S26 S27
    refine ⟨_, rfl, yl, dl, rfl, (odl.same S27).shw, sdl.1, sdl.2.1, sdl.2.2, rfl, _, rfl, ?_⟩
    rw [decide_eq_true (rfl : V.str dl.shown = V.str dl.shown)]
    refine iteF ?_
    have ob := ob.same S27
    have ow := ow.same S27
    have w27 := well_same w25 S27
    have g27 := S27 _ _ g25
    have T27 := T25.ext S27
    clear S26 S27 w25 g25 T25 hd ol odl mo
    -- each letter
    refine ⟨smallN (by show 4 ≤ 1000; decide), fun pt yy => ?_⟩
    have npt : pt ≠ aw := well_ne3 w27 yy
    generalize ee9 : upd H27 pt _ = H28
    have S28 := lay_same ee9 yy
    have h28 := lay_at ee9
    clear ee9
    have ob := ob.same S28
    have ow := ow.same S28
    have w28 := well_same w27 S28
    have g28 := S28 _ _ g27
    have T28 := T27.ext S28
    clear S28 w27 g27 T27
    refine ⟨pt, rfl, ⟨_, SqT.of h28⟩, for_tup (K := K) (a := pt) (xs := [.str "s", .str "j", .str "n", .str "r"]) (fun i σ H' => ∃ (v3 v4 v6 v7 v10 v11 v12 : Option V) (n' : Nat), σ = [some (.ref a), some (.int z), some (.ref aw), v3, v4, some (.str zm), v6, v7, some yb, some yw, v10, v11, v12] ∧ KeepN aw H28 H' ∧ WellAt H' aw n' ∧ n' ≤ n24 + i ∧ LamX.Tabs (TLs K) H')
      ⟨_, _, _, _, _, _, _, n24, rfl, KeepN.refl _ _, w28, by omega, T28⟩ (fun i σ H' _ ⟨_, _, _, _, _, _, _, _, _, e, _⟩ => SqT.of (e _ _ npt (fun _ z => by cases z) h28)) ?_ ?_⟩
    · rintro j x σ H29 hx ⟨v3, v4, v6, v7, v10, v11, v12, n29, rfl, k29, w29, m29, T29⟩
      obtain ⟨g, c, rfl, hg, hc, hn1, hn2⟩ : ∃ (g : Str) (c : Nat), x = .str g ∧ tl g = [c] ∧ c ∈ letters4 ∧ (c = 110 → V.str g = .str "n") ∧ (c ≠ 110 → V.str g ≠ .str "n") := by
        refine all_cons (P := fun x => ∃ (g : Str) (c : Nat), x = .str g ∧ tl g = [c] ∧ c ∈ letters4 ∧ (c = 110 → V.str g = .str "n") ∧ (c ≠ 110 → V.str g ≠ .str "n")) ⟨_, 115, rfl, by decide +kernel, by decide, fun h => absurd h (by decide), fun _ h => absurd h (by decide +kernel)⟩ ?_ x (mem_at hx)
        refine all_cons ⟨_, 106, rfl, by decide +kernel, by decide, fun h => absurd h (by decide), fun _ h => absurd h (by decide +kernel)⟩ ?_
        refine all_cons ⟨_, 110, rfl, by decide +kernel, by decide, fun _ => rfl, fun h => absurd rfl h⟩ ?_
        exact all_cons ⟨_, 114, rfl, by decide +kernel, by decide, fun h => absurd h (by decide), fun _ h => absurd h (by decide +kernel)⟩ all_nil
      have j4 : j < 4 := lt_at hx
      have lg : g.length = 1 := by rw [len_tl, hg]; rfl
      have ob29 := ob.keepN w28 k29
      have ow29 := ow.keepN w28 k29
      refine ⟨T29, fun H30 x30 T30 => ?_⟩
      have k30 := k29.trans (KeepN.ext (a := aw) x30)
      have w30 := well_extN w29 x30
      have ob30 := ob29.ext x30
      have ow30 := ow29.ext x30
      have mo : madeO yb (.str g) yw = .inl yb := made_m hg hc (hb c hc)
      obtain ⟨⟨db, odb, sdb⟩, sb⟩ := id ob30
      refine ⟨_, rfl, _, rfl, _, rfl, yb, .str g, yw, rfl, ob30.vl, .inl trivial, ow30.vl, ob30.2, (fun _ e => by cases e; omega), ow30.2, inl_raised mo (fun dd H31 S31 hd => ⟨rfl, dd, yb, db, rfl, hd, odb.same S31, sdb, fun H32 S32 => ?_⟩), inl_no mo⟩
      have S32 := Same.trans' S31 S32
      refine ⟨_, rfl, yb, db, rfl, (odb.same S32).shw, sdb.1, sdb.2.1, sdb.2.2, rfl, _, rfl, ?_⟩
      rw [decide_eq_true (rfl : V.str db.shown = V.str db.shown)]
      refine iteF ?_
      have k32 := k30.trans (KeepN.same S32)
      have w32 := well_same w30 S32
      have T32 := T30.ext S32
      have ow32 := ow30.same S32
      clear S31 S32 hd odb ob30 ow30 w30 T30 k30 mo x30 ob29 ow29 T29 w29 k29
      refine ⟨_, rfl, _, rfl, smallN (by show 6 ≤ 1000; decide), fun s1 yy => ?_⟩
      have ns1 : s1 ≠ aw := well_ne3 w32 yy
      generalize ee9 : upd H32 s1 _ = H33
      have S33 := lay_same ee9 yy
      have h33 := lay_at ee9
      clear ee9
      have w33 := well_same w32 S33
      refine ⟨aw, n29, _, rfl, w33, by omega, .inl ⟨s1, _, rfl, h33, ns1, (by show 0 < 6; decide), (by show 6 ≤ 1000; decide), fun yo u34 n34 hyo m34 hu34 => ?_⟩⟩
      have oyo : OddV H33 yo ∧ whatO 110 yo = none := by
        refine all_cons (P := fun y => OddV H33 y ∧ whatO 110 y = none) ⟨odd_int (by decide), rfl⟩ ?_ yo hyo
        refine all_cons ⟨odd_non, rfl⟩ ?_
        refine all_cons ⟨odd_bl _, rfl⟩ ?_
        refine all_cons ⟨odd_str (by decide +kernel) (asc_of (by decide +kernel)), by decide +kernel⟩ ?_
        refine all_cons ⟨odd_str (by decide +kernel) (asc_of (by decide +kernel)), by decide +kernel⟩ ?_
        exact all_cons ⟨odd_str (by decide +kernel) (asc_of (by decide +kernel)), by decide +kernel⟩ all_nil
      have K34 : Keep aw H33 (upd H33 aw u34) := Keep.at_
      have w34 := well_upd (H := H33) (a := aw) hu34
      have k34 := (k32.trans (KeepN.same S33)).trans (KeepN.of K34)
      have T34 := tabs_keep w33 K34 (T32.ext S33)
      have ow34 := (ow32.same S33).keepN w33 (KeepN.of K34)
      have oy34 := oyo.1.keepN w33 (KeepN.of K34)
      have hyo := oyo.2
      generalize upd H33 aw u34 = H34 at w34 k34 T34 ow34 oy34 ⊢
      clear K34 w33 S33 h33 ns1 oyo ow32 w32 T32 k32
      refine ⟨smallN (by show 2 ≤ 1000; decide), fun s2 yy => ?_⟩
      generalize ee9 : upd H34 s2 _ = H35
      have S35 := lay_same ee9 yy
      have h35 := lay_at ee9
      clear ee9
      have w35 := well_same w34 S35
      have k35 := k34.trans (KeepN.same S35)
      have T35 := T34.ext S35
      have ow35 := ow34.same S35
      have oy35 := oy34.same S35
      obtain ⟨yd, ed, od, hd⟩ : ∃ yd, atI [yw, yo] (if decide (V.str g = .str "n") = true then 1 else 0) = some yd ∧ OddV H35 yd ∧ whatO c yd = none := by
        by_cases h : c = 110
        · subst h
          rw [decide_eq_true (hn1 rfl)]
          exact ⟨yo, rfl, oy35, hyo⟩
        · rw [decide_eq_false (hn2 h)]
          exact ⟨yw, rfl, ow35, hw c hc h⟩
      refine ⟨_, rfl, rfl, .inr ⟨_, rfl, s2, _, _, yd, rfl, rfl, SqL.of h35, ed, ?_⟩⟩
      clear ow35 oy35 ow34 oy34 k34 w34 T34 S35 h35 hyo ed
      refine ⟨T35, fun H36 x36 T36 => ?_⟩
      have k36 := k35.trans (KeepN.ext (a := aw) x36)
      have w36 := well_extN w35 x36
      have od36 := od.ext x36
      have mo : madeO (.str zm) (.str g) yd = .inl yd := made_w hg hc hu12 hd
      obtain ⟨⟨dd, odd, sdd⟩, sd⟩ := id od36
      refine ⟨_, rfl, _, rfl, _, rfl, .str zm, .str g, yd, rfl, .inl trivial, .inl trivial, od36.vl, (fun _ e => by cases e; omega), (fun _ e => by cases e; omega), od36.2, inl_raised mo (fun de H37 S37 hd => ⟨rfl, de, yd, dd, rfl, hd, odd.same S37, sdd, fun H38 S38 => ?_⟩), inl_no mo⟩
      have S38 := Same.trans' S37 S38
      refine ⟨_, rfl, yd, dd, rfl, (odd.same S38).shw, sdd.1, sdd.2.1, sdd.2.2, rfl, _, rfl, ?_⟩
      rw [decide_eq_true (rfl : V.str dd.shown = V.str dd.shown)]
      exact iteF ⟨_, _, _, _, _, _, _, n34, rfl, k36.trans (KeepN.same S38), well_same w36 S38, by omega, T36.ext S38⟩
    · rintro σ H29 ⟨v3, v4, v6, v7, v10, v11, v12, n29, rfl, k29, w29, m29, T29⟩
      have ow29 := ow.keepN w28 k29
      have g29 := k29 _ _ n3 (fun _ z => by cases z) g28
      clear ob ow k29 w28 g28 T28 h28 hb
      refine ⟨smallN (by show 3 ≤ 1000; decide), fun pt yy => ?_⟩
      have npt : pt ≠ aw := well_ne3 w29 yy
      generalize ee9 : upd H29 pt _ = H30
      have S30 := lay_same ee9 yy
      have h30 := lay_at ee9
      clear ee9
      have w30 := well_same w29 S30
      have g30 := S30 _ _ g29
      have T30 := T29.ext S30
      have ow30 := ow29.same S30
      clear S30 w29 g29 T29 ow29
      refine ⟨pt, rfl, ⟨_, SqT.of h30⟩, for_tup (K := K) (a := pt) (xs := [.str "j", .str "n", .str "r"]) (fun i σ H' => ∃ (v3 v4 v6 v7 v10 v11 v12 : Option V), σ = [some (.ref a), some (.int z), some (.ref aw), v3, v4, some (.str zm), v6, v7, some yb, some yw, v10, v11, v12] ∧ LamX.ExtN H30 H' ∧ LamX.Tabs (TLs K) H')
        ⟨_, _, _, _, _, _, _, rfl, extN_same (Same.refl _), T30⟩ (fun i σ H' _ ⟨_, _, _, _, _, _, _, _, e, _⟩ => SqT.of (e _ _ h30 (fun _ z => by cases z))) ?_ ?_⟩
      · rintro j x σ H31 hx ⟨v3, v4, v6, v7, v10, v11, v12, rfl, e31, T31⟩
        obtain ⟨g, c, rfl, hg, hc, hn⟩ : ∃ (g : Str) (c : Nat), x = .str g ∧ tl g = [c] ∧ c ∈ letters4 ∧ c ≠ 115 := by
          refine all_cons (P := fun x => ∃ (g : Str) (c : Nat), x = .str g ∧ tl g = [c] ∧ c ∈ letters4 ∧ c ≠ 115) ⟨_, 106, rfl, by decide +kernel, by decide, by decide⟩ ?_ x (mem_at hx)
          refine all_cons ⟨_, 110, rfl, by decide +kernel, by decide, by decide⟩ ?_
          exact all_cons ⟨_, 114, rfl, by decide +kernel, by decide, by decide⟩ all_nil
        have lg : g.length = 1 := by rw [len_tl, hg]; rfl
        have ow31 := ow30.ext e31
        refine ⟨T31, fun H32 x32 T32 => ?_⟩
        have e32 := extN_trans e31 x32
        have ow32 := ow31.ext x32
        have or5 : OddV H32 (.str (zm ++ Str.ofString "-r5")) := odd_str (lapp (by decide +kernel)) (asc_app azm (asc_of (by decide +kernel)))
        have mo : madeO (.str (zm ++ Str.ofString "-r5")) (.str g) yw = .inl (.str (zm ++ Str.ofString "-r5")) := made_m hg hc (nor5 (by decide +kernel) hn)
        obtain ⟨⟨dd, odd, sdd⟩, sd⟩ := id or5
        refine ⟨_, rfl, _, _, rfl, rfl, le (by decide +kernel), _, rfl, _, rfl, _, .str g, yw, rfl, or5.vl, .inl trivial, ow32.vl, or5.2, (fun _ e => by cases e; omega), ow32.2, inl_raised mo (fun de H33 S33 hd => ⟨rfl, de, _, dd, rfl, hd, odd.same S33, sdd, fun H34 S34 => ?_⟩), inl_no mo⟩
        have S34 := Same.trans' S33 S34
        refine ⟨_, rfl, _, _, rfl, rfl, le (by decide +kernel), _, dd, rfl, (odd.same S34).shw, sdd.1, sdd.2.1, sdd.2.2, rfl, _, rfl, ?_⟩
        rw [decide_eq_true (rfl : V.str dd.shown = V.str dd.shown)]
        exact iteF ⟨_, _, _, _, _, _, _, rfl, extN_trans e32 (extN_same S34), T32.ext S34⟩
      · rintro σ H31 ⟨v3, v4, v6, v7, v10, v11, v12, rfl, e31, T31⟩
        have g31 := e31 _ _ g30 (fun _ z => by cases z)
        clear e31 T30 g30 w30 ow30 h30 hw npt
        have rl : (strRep (Str.ofString "-r1") 1200).length = 3600 := by rw [rep_lenI (by decide) (by decide +kernel)]; decide +kernel
        have dl : 22 < (zm ++ strRep (Str.ofString "-r1") 1200).length ∧ (zm ++ strRep (Str.ofString "-r1") 1200).length ≤ 100000 := by rw [len_app, rl]; omega
        refine ⟨_, rfl, _, _, rfl, rfl, (by decide +kernel), (by decide), (by decide), _, _, rfl, rfl, small5 (by omega), ?_⟩
        refine ⟨T31, fun H32 x32 T32 => ?_⟩
        have g32 := x32 _ _ g31 (fun _ z => by cases z)
        have odp : OddV H32 (.str (zm ++ strRep (Str.ofString "-r1") 1200)) := odd_str dl.2 (asc_app azm (rep_asc (asc_of (by decide +kernel))))
        have mo : madeO (.str (zm ++ strRep (Str.ofString "-r1") 1200)) (.str "s") (.int 0) = .inl (.str (zm ++ strRep (Str.ofString "-r1") 1200)) := made_m (c := 115) (by decide +kernel) (by decide) (maker_long dl.1 _)
        obtain ⟨⟨dd, odd, sdd⟩, sd⟩ := id odp
        refine ⟨_, rfl, _, .str "s", .int 0, rfl, odp.vl, .inl trivial, .inl trivial, odp.2, (fun _ e => by cases e; decide +kernel), (fun _ e => by cases e), inl_raised mo (fun de H33 S33 hd => ⟨rfl, de, _, dd, rfl, hd, odd.same S33, sdd, fun H34 S34 => ?_⟩), inl_no mo⟩
        have S34 := Same.trans' S33 S34
        refine ⟨_, rfl, _, dd, rfl, (odd.same S34).shw, sdd.1, sdd.2.1, sdd.2.2, rfl, _, rfl, ?_⟩
        rw [decide_eq_true (rfl : V.str dd.shown = V.str dd.shown)]
        refine iteF ?_
        have g34 := S34 _ _ g32
        have T34 := T32.ext S34
        clear S33 S34 hd odd odp mo x32 T32 g32 T31 g31 dl rl
        refine ⟨smallN (by show 2 ≤ 1000; decide), fun t1 yy => ?_⟩
        generalize ee9 : upd H34 t1 _ = H35
        have S35 := lay_same ee9 yy
        have h35 := lay_at ee9
        clear ee9
        refine ⟨smallN (by show 2 ≤ 1000; decide), fun t2 yy => ?_⟩
        generalize ee9 : upd H35 t2 _ = H36
        have S36 := lay_same ee9 yy
        have h36 := lay_at ee9
        clear ee9
        refine ⟨smallN (by show 2 ≤ 1000; decide), fun t3 yy => ?_⟩
        generalize ee9 : upd H36 t3 _ = H37
        have S37 := lay_same ee9 yy
        have h37 := lay_at ee9
        clear ee9
        refine ⟨smallN (by show 3 ≤ 1000; decide), fun pt yy => ?_⟩
        generalize ee9 : upd H37 pt _ = H38
        have S38 := lay_same ee9 yy
        have h38 := lay_at ee9
        clear ee9
        have S := Same.trans' (Same.trans' S35 S36) (Same.trans' S37 S38)
        have g38 := S _ _ g34
        have T38 := T34.ext S
        have c1 := S38 _ _ (S37 _ _ (S36 _ _ h35))
        have c2 := S38 _ _ (S37 _ _ h36)
        have c3 := S38 _ _ h37
        clear S S35 S36 S37 S38 h35 h36 h37 g34 T34
        refine ⟨pt, rfl, ⟨_, SqT.of h38⟩, for_tup (K := K) (a := pt) (xs := [.ref t1, .ref t2, .ref t3]) (fun i σ H' => ∃ (v3 v4 v6 v7 v10 v11 v12 : Option V), σ = [some (.ref a), some (.int z), some (.ref aw), v3, v4, some (.str zm), v6, v7, some yb, some yw, v10, v11, v12] ∧ LamX.ExtN H38 H' ∧ LamX.Tabs (TLs K) H')
          ⟨_, _, _, _, _, _, _, rfl, extN_same (Same.refl _), T38⟩ (fun i σ H' _ ⟨_, _, _, _, _, _, _, _, e, _⟩ => SqT.of (e _ _ h38 (fun _ z => by cases z))) ?_ ?_⟩
        · rintro j x σ H39 hx ⟨v3, v4, v6, v7, v10, v11, v12, rfl, e39, T39⟩
          obtain ⟨p, g, c, i, rfl, hp, hg, hc, hn, hi, hb⟩ : ∃ (p : Addr) (g : Str) (c : Nat) (i : Int), x = .ref p ∧ H39 p = some (.tup [.str g, .int i]) ∧ tl g = [c] ∧ c ∈ letters4 ∧ c ≠ 110 ∧ i = (hiOf c : Int) + 1 ∧ i.natAbs < 10 ^ 12 := by
            refine all_cons (P := fun x => ∃ (p : Addr) (g : Str) (c : Nat) (i : Int), x = .ref p ∧ H39 p = some (.tup [.str g, .int i]) ∧ tl g = [c] ∧ c ∈ letters4 ∧ c ≠ 110 ∧ i = (hiOf c : Int) + 1 ∧ i.natAbs < 10 ^ 12) ⟨t1, _, 115, _, rfl, e39 _ _ c1 (fun _ z => by cases z), by decide +kernel, by decide, by decide, rfl, by decide⟩ ?_ x (mem_at hx)
            refine all_cons ⟨t2, _, 106, _, rfl, e39 _ _ c2 (fun _ z => by cases z), by decide +kernel, by decide, by decide, rfl, by decide⟩ ?_
            exact all_cons ⟨t3, _, 114, _, rfl, e39 _ _ c3 (fun _ z => by cases z), by decide +kernel, by decide, by decide, rfl, by decide⟩ all_nil
          have lg : g.length = 1 := by rw [len_tl, hg]; rfl
          refine ⟨p, _, rfl, SqT.of hp, rfl, _, _, rfl, _, _, rfl, rfl, ?_⟩
          refine ⟨T39, fun H40 x40 T40 => ?_⟩
          have oi : OddV H40 (.int i) := odd_int hb
          have mo : madeO (.str zm) (.str g) (.int i) = .inl (.int i) := made_w hg hc hu12 (by rw [whatO_int, if_neg (by omega)])
          obtain ⟨⟨dd, odd, sdd⟩, sd⟩ := id oi
          refine ⟨_, rfl, _, rfl, _, rfl, .str zm, .str g, .int i, rfl, .inl trivial, .inl trivial, .inl trivial, (fun _ e => by cases e; omega), (fun _ e => by cases e; omega), (fun _ e => by cases e), inl_raised mo (fun de H41 S41 hd => ⟨rfl, de, _, dd, rfl, hd, odd.same S41, sdd, fun H42 S42 => ?_⟩), inl_no mo⟩
          have S42 := Same.trans' S41 S42
          refine ⟨_, rfl, _, dd, rfl, (odd.same S42).shw, sdd.1, sdd.2.1, sdd.2.2, rfl, _, rfl, ?_⟩
          rw [decide_eq_true (rfl : V.str dd.shown = V.str dd.shown)]
          refine iteF ?_
          have e42 := extN_trans (extN_trans e39 x40) (extN_same S42)
          have T42 := T40.ext S42
          clear S41 S42 hd odd oi mo x40 T40 e39 T39 hp
          refine ⟨T42, fun H43 x43 T43 => ?_⟩
          have hw' : whatO c (.int (i - 1)) = some (.n (i - 1).toNat) := by rw [whatO_int, if_pos ⟨hn, by omega, by omega⟩]
          have mo : madeO (.str zm) (.str g) (.int (i - 1)) = .inr _ := made_y hg hc hu12 hw'
          refine ⟨_, rfl, _, rfl, _, rfl, _, _, rfl, rfl, .str zm, .str g, .int (i - 1), rfl, .inl trivial, .inl trivial, .inl trivial, (fun _ e => by cases e; omega), (fun _ e => by cases e; omega), (fun _ e => by cases e), inr_raised mo, fun l _ H44 S44 => ?_⟩
          refine ⟨rfl, _, rfl, ?_⟩
          rw [decide_eq_true (rfl : V.str (Str.ofString "ok") = V.str (Str.ofString "ok"))]
          exact iteF ⟨_, _, _, _, _, _, _, rfl, extN_trans e42 (extN_trans x43 (extN_same S44)), T43.ext S44⟩
        · rintro σ H39 ⟨v3, v4, v6, v7, v10, v11, v12, rfl, e39, T39⟩
          exact ⟨_, _, _, _, _, _, _, _, _, _, _, _, rfl, e39 _ _ g38 (fun _ z => by cases z), T39⟩

def dd_is_integer : He.DefD := ⟨("is_integer", none), "is_integer", "is_integer", defArgs s_is_integer, defBody s_is_integer, defScope s_is_integer, [], []⟩
def dd_is_user_name : He.DefD := ⟨("is_user_name", none), "is_user_name", "is_user_name", defArgs s_is_user_name, defBody s_is_user_name, defScope s_is_user_name, [], []⟩
def dd_number_of : He.DefD := ⟨("number_of", none), "number_of", "number_of", defArgs s_number_of, defBody s_number_of, defScope s_number_of, [], []⟩
def dd_part_of : He.DefD := ⟨("part_of", none), "part_of", "part_of", defArgs s_part_of, defBody s_part_of, defScope s_part_of, [], []⟩
def dd_apart : He.DefD := ⟨("apart", none), "apart", "apart", defArgs s_apart, defBody s_apart, defScope s_apart, [], []⟩
def dd_is_maker : He.DefD := ⟨("is_maker", none), "is_maker", "is_maker", defArgs s_is_maker, defBody s_is_maker, defScope s_is_maker, [], []⟩
def dd_is_name : He.DefD := ⟨("is_name", none), "is_name", "is_name", defArgs s_is_name, defBody s_is_name, defScope s_is_name, [], []⟩
def dd_made_name : He.DefD := ⟨("made_name", none), "made_name", "made_name", defArgs s_made_name, defBody s_made_name, defScope s_made_name, [], []⟩
def dd_taken_apart : He.DefD := ⟨("taken_apart", none), "taken_apart", "taken_apart", defArgs s_taken_apart, defBody s_taken_apart, defScope s_taken_apart, [], []⟩
def dd__law_cell_at : He.DefD := ⟨("_law_cell_at", none), "_law_cell_at", "_law_cell_at", defArgs s__law_cell_at, defBody s__law_cell_at, defScope s__law_cell_at, [], []⟩
def dd__law_source : He.DefD := ⟨("_law_source", none), "_law_source", "_law_source", defArgs s__law_source, defBody s__law_source, defScope s__law_source, [], []⟩
def dd__law_draw : He.DefD := ⟨("_law_draw", none), "_law_draw", "_law_draw", defArgs s__law_draw, defBody s__law_draw, defScope s__law_draw, [], []⟩
def dd__law_pick : He.DefD := ⟨("_law_pick", none), "_law_pick", "_law_pick", defArgs s__law_pick, defBody s__law_pick, defScope s__law_pick, [], []⟩
def dd__law_user_name : He.DefD := ⟨("_law_user_name", none), "_law_user_name", "_law_user_name", defArgs s__law_user_name, defBody s__law_user_name, defScope s__law_user_name, [], []⟩
def dd__law_is_user : He.DefD := ⟨("_law_is_user", none), "_law_is_user", "_law_is_user", defArgs s__law_is_user, defBody s__law_is_user, defScope s__law_is_user, [], []⟩
def dd__law_number : He.DefD := ⟨("_law_number", none), "_law_number", "_law_number", defArgs s__law_number, defBody s__law_number, defScope s__law_number, [], []⟩
def dd__law_apart : He.DefD := ⟨("_law_apart", none), "_law_apart", "_law_apart", defArgs s__law_apart, defBody s__law_apart, defScope s__law_apart, [], []⟩
def dd__law_refused : He.DefD := ⟨("_law_refused", none), "_law_refused", "_law_refused", defArgs s__law_refused, defBody s__law_refused, defScope s__law_refused, [], []⟩
def dd_law : He.DefD := ⟨("law", none), "law", "law", defArgs s_law, defBody s_law, defScope s_law, [], []⟩
def dd_PlaneError___init__ : He.DefD := ⟨("PlaneError", some "__init__"), "__init__", "PlaneError.__init__", defArgs s_PEinit, defBody s_PEinit, defScope s_PEinit, [.str "invalid"], []⟩
def dd_BadName___init__ : He.DefD := ⟨("BadName", some "__init__"), "__init__", "BadName.__init__", defArgs s_BNinit, defBody s_BNinit, defScope s_BNinit, [], []⟩
def fn : List He.DefD := [dd_is_integer, dd_is_user_name, dd_number_of, dd_part_of, dd_apart, dd_is_maker, dd_is_name, dd_made_name, dd_taken_apart, dd__law_cell_at, dd__law_source, dd__law_draw, dd__law_pick, dd__law_user_name, dd__law_is_user, dd__law_number, dd__law_apart, dd__law_refused, dd_law, dd_PlaneError___init__, dd_BadName___init__]
def fa : List He.Fa := [.glo "is_integer", .glo "is_user_name", .glo "number_of", .glo "part_of", .glo "apart", .glo "is_maker", .glo "is_name", .glo "made_name", .glo "taken_apart", .glo "_law_cell_at", .glo "_law_source", .glo "_law_draw", .glo "_law_pick", .glo "_law_user_name", .glo "_law_is_user", .glo "_law_number", .glo "_law_apart", .glo "_law_refused", .glo "law", .glo "PlaneError", .glo "BadName", .glo "BadKey", .glo "BadValue", .glo "BadSelector", .glo "BadLabels", .glo "BadKind", .glo "BadField", .glo "BadShape", .free "len", .free "int", .free "bool", .free "str", .free "range", .free "isinstance", .free "all", .free "repr", .free "ValueError", .str "SMALL" "abcdefghijklmnopqrstuvwxyz", .str "DIGITS" "0123456789", .int "MOST_SIGNS" 10, .int "MOST_MADE" 22, .glo "HIGHEST"]
def tf : List He.Defn := [("law", none)]
def ts : List He.Tab := [((fun K => He.ga K "HIGHEST"), ["s", "j", "r"])]
abbrev R : PySem.W.OpenRow := PySem.W.OpenLaw.row PySem.Challenge.rw_controlplane_k02_what_is_no_name
abbrev hk : PySem.W.Hook := hookY fa fn ts tf exB
def ob (s : PySem.W.SharedT) : He.AlX := obsY fa fn ts tf exB (HandSHeadRun.getT s)
theorem ob_eq (s : PySem.W.SharedT) : ob s = hk.obs s.abs := obsY_eq (HandSHeadRun.getT_eq s)
theorem run (w : World) : HandSHeadRun.RunEq R (PySem.W.view R.prog [35]) hk ob 6000 [("__name__" : PySem.Str), ("PlaneError" : PySem.Str), ("BadName" : PySem.Str), ("BadKey" : PySem.Str), ("BadValue" : PySem.Str), ("BadSelector" : PySem.Str), ("BadLabels" : PySem.Str), ("BadKind" : PySem.Str), ("BadField" : PySem.Str), ("BadShape" : PySem.Str), ("is_integer" : PySem.Str), ("is_user_name" : PySem.Str), ("number_of" : PySem.Str), ("part_of" : PySem.Str), ("apart" : PySem.Str), ("is_maker" : PySem.Str), ("is_name" : PySem.Str), ("made_name" : PySem.Str), ("taken_apart" : PySem.Str), ("_law_cell_at" : PySem.Str), ("_law_source" : PySem.Str), ("_law_draw" : PySem.Str), ("_law_pick" : PySem.Str), ("_law_user_name" : PySem.Str), ("_law_is_user" : PySem.Str), ("_law_number" : PySem.Str), ("_law_apart" : PySem.Str), ("_law_refused" : PySem.Str), ("SMALL" : PySem.Str), ("DIGITS" : PySem.Str), ("MOST_SIGNS" : PySem.Str), ("MOST_MADE" : PySem.Str), ("HIGHEST" : PySem.Str)] w := PySem.W.byRow2 "special-get-raises" (P := fun w => HandSHeadRun.RunEq R (PySem.W.view R.prog [35]) hk ob 6000 [("__name__" : PySem.Str), ("PlaneError" : PySem.Str), ("BadName" : PySem.Str), ("BadKey" : PySem.Str), ("BadValue" : PySem.Str), ("BadSelector" : PySem.Str), ("BadLabels" : PySem.Str), ("BadKind" : PySem.Str), ("BadField" : PySem.Str), ("BadShape" : PySem.Str), ("is_integer" : PySem.Str), ("is_user_name" : PySem.Str), ("number_of" : PySem.Str), ("part_of" : PySem.Str), ("apart" : PySem.Str), ("is_maker" : PySem.Str), ("is_name" : PySem.Str), ("made_name" : PySem.Str), ("taken_apart" : PySem.Str), ("_law_cell_at" : PySem.Str), ("_law_source" : PySem.Str), ("_law_draw" : PySem.Str), ("_law_pick" : PySem.Str), ("_law_user_name" : PySem.Str), ("_law_is_user" : PySem.Str), ("_law_number" : PySem.Str), ("_law_apart" : PySem.Str), ("_law_refused" : PySem.Str), ("SMALL" : PySem.Str), ("DIGITS" : PySem.Str), ("MOST_SIGNS" : PySem.Str), ("MOST_MADE" : PySem.Str), ("HIGHEST" : PySem.Str)] w) (fun w => by intro os; kernel_rfl) (fun w => by intro os; kernel_rfl) w
theorem facts {P : Program} {w : World} {K : PySem.W.Frag} {h : Heap} {mg : Str → Option Value} {f : Addr} (X : K.In h) (G : h.Ns mainGlobals mg) (hfa : mg ("law" : Str) = some (.ref f)) (c : He.SaysX fa fn ts tf exB w h K) :
    ∃ fd : FuncData, (∀ (s : Shared) (v : Value), BindsTo s fd ⟨[v], []⟩ [("_law_script", v)]) ∧ ∀ base : Heap, K.In base → base.Ns mainGlobals mg → (∀ p ∈ tf.map (He.cT K), LamX.TabB base mg p.1 p.2) → FnG P w K mg base CX0 120 f fd ["_law_script"] (sp_law K) := by
  have cd := c.t.d
  have T : Txt K mg w := ⟨He.glo_ok X G (cd.fact 0 (f := .glo "is_integer") rfl),
    cd.def_ 0 (d := dd_is_integer) rfl,
    He.glo_ok X G (cd.fact 1 (f := .glo "is_user_name") rfl),
    cd.def_ 1 (d := dd_is_user_name) rfl,
    He.glo_ok X G (cd.fact 2 (f := .glo "number_of") rfl),
    cd.def_ 2 (d := dd_number_of) rfl,
    He.glo_ok X G (cd.fact 3 (f := .glo "part_of") rfl),
    cd.def_ 3 (d := dd_part_of) rfl,
    He.glo_ok X G (cd.fact 4 (f := .glo "apart") rfl),
    cd.def_ 4 (d := dd_apart) rfl,
    He.glo_ok X G (cd.fact 5 (f := .glo "is_maker") rfl),
    cd.def_ 5 (d := dd_is_maker) rfl,
    He.glo_ok X G (cd.fact 6 (f := .glo "is_name") rfl),
    cd.def_ 6 (d := dd_is_name) rfl,
    He.glo_ok X G (cd.fact 7 (f := .glo "made_name") rfl),
    cd.def_ 7 (d := dd_made_name) rfl,
    He.glo_ok X G (cd.fact 8 (f := .glo "taken_apart") rfl),
    cd.def_ 8 (d := dd_taken_apart) rfl,
    He.glo_ok X G (cd.fact 9 (f := .glo "_law_cell_at") rfl),
    cd.def_ 9 (d := dd__law_cell_at) rfl,
    He.glo_ok X G (cd.fact 10 (f := .glo "_law_source") rfl),
    cd.def_ 10 (d := dd__law_source) rfl,
    He.glo_ok X G (cd.fact 11 (f := .glo "_law_draw") rfl),
    cd.def_ 11 (d := dd__law_draw) rfl,
    He.glo_ok X G (cd.fact 12 (f := .glo "_law_pick") rfl),
    cd.def_ 12 (d := dd__law_pick) rfl,
    He.glo_ok X G (cd.fact 13 (f := .glo "_law_user_name") rfl),
    cd.def_ 13 (d := dd__law_user_name) rfl,
    He.glo_ok X G (cd.fact 14 (f := .glo "_law_is_user") rfl),
    cd.def_ 14 (d := dd__law_is_user) rfl,
    He.glo_ok X G (cd.fact 15 (f := .glo "_law_number") rfl),
    cd.def_ 15 (d := dd__law_number) rfl,
    He.glo_ok X G (cd.fact 16 (f := .glo "_law_apart") rfl),
    cd.def_ 16 (d := dd__law_apart) rfl,
    He.glo_ok X G (cd.fact 17 (f := .glo "_law_refused") rfl),
    cd.def_ 17 (d := dd__law_refused) rfl,
    He.glo_ok X G (cd.fact 18 (f := .glo "law") rfl),
    cd.def_ 18 (d := dd_law) rfl,
    He.glo_ok X G (cd.fact 19 (f := .glo "PlaneError") rfl),
    He.glo_ok X G (cd.fact 20 (f := .glo "BadName") rfl),
    He.glo_ok X G (cd.fact 21 (f := .glo "BadKey") rfl),
    He.glo_ok X G (cd.fact 22 (f := .glo "BadValue") rfl),
    He.glo_ok X G (cd.fact 23 (f := .glo "BadSelector") rfl),
    He.glo_ok X G (cd.fact 24 (f := .glo "BadLabels") rfl),
    He.glo_ok X G (cd.fact 25 (f := .glo "BadKind") rfl),
    He.glo_ok X G (cd.fact 26 (f := .glo "BadField") rfl),
    He.glo_ok X G (cd.fact 27 (f := .glo "BadShape") rfl),
    He.free_ok X G (cd.fact 28 (f := .free "len") rfl),
    He.free_ok X G (cd.fact 29 (f := .free "int") rfl),
    He.free_ok X G (cd.fact 30 (f := .free "bool") rfl),
    He.free_ok X G (cd.fact 31 (f := .free "str") rfl),
    He.free_ok X G (cd.fact 32 (f := .free "range") rfl),
    He.free_ok X G (cd.fact 33 (f := .free "isinstance") rfl),
    He.free_ok X G (cd.fact 34 (f := .free "all") rfl),
    He.free_ok X G (cd.fact 35 (f := .free "repr") rfl),
    He.free_ok X G (cd.fact 36 (f := .free "ValueError") rfl),
    He.str_ok X G (cd.fact 37 (f := .str "SMALL" "abcdefghijklmnopqrstuvwxyz") rfl),
    He.str_ok X G (cd.fact 38 (f := .str "DIGITS" "0123456789") rfl),
    He.int_ok X G (cd.fact 39 (f := .int "MOST_SIGNS" 10) rfl),
    He.int_ok X G (cd.fact 40 (f := .int "MOST_MADE" 22) rfl),
    He.glo_ok X G (cd.fact 41 (f := .glo "HIGHEST") rfl),
    cd.def_ 19 (d := dd_PlaneError___init__) rfl,
    cd.def_ 20 (d := dd_BadName___init__) rfl,
    c.more,
    c.t.tab 0 rfl⟩
  obtain ⟨fd, F⟩ := T.d_law
  have e := hfa.symm.trans T.g_law
  cases e
  have b := FunD.bindsA (ps := ["_law_script"]) F fun _ _ _ _ _ _ us hl => match us, hl with | [_], _ => rfl
  exact ⟨fd, fun s v => b s [v] rfl, fun base _ _ tb => ok_law T F (tb _ (List.mem_singleton.mpr rfl))⟩
end Lk
open PySem PySem.W PySem.Calls PyProof.Rows
theorem PySem.Challenge.cw_controlplane_k02_what_is_no_name_holds : PySem.Challenge.rw_controlplane_k02_what_is_no_name.Holds := by
  w_on; o_law
  refine HandSHeadRun.head_any (r := OpenLaw.row PySem.Challenge.rw_controlplane_k02_what_is_no_name) (q := view (OpenLaw.row PySem.Challenge.rw_controlplane_k02_what_is_no_name).prog [35]) (H := Lk.hk) (ob := Lk.ob) (M := 6000) (loose := [("__name__" : PySem.Str), ("PlaneError" : PySem.Str), ("BadName" : PySem.Str), ("BadKey" : PySem.Str), ("BadValue" : PySem.Str), ("BadSelector" : PySem.Str), ("BadLabels" : PySem.Str), ("BadKind" : PySem.Str), ("BadField" : PySem.Str), ("BadShape" : PySem.Str), ("is_integer" : PySem.Str), ("is_user_name" : PySem.Str), ("number_of" : PySem.Str), ("part_of" : PySem.Str), ("apart" : PySem.Str), ("is_maker" : PySem.Str), ("is_name" : PySem.Str), ("made_name" : PySem.Str), ("taken_apart" : PySem.Str), ("_law_cell_at" : PySem.Str), ("_law_source" : PySem.Str), ("_law_draw" : PySem.Str), ("_law_pick" : PySem.Str), ("_law_user_name" : PySem.Str), ("_law_is_user" : PySem.Str), ("_law_number" : PySem.Str), ("_law_apart" : PySem.Str), ("_law_refused" : PySem.Str), ("SMALL" : PySem.Str), ("DIGITS" : PySem.Str), ("MOST_SIGNS" : PySem.Str), ("MOST_MADE" : PySem.Str), ("HIGHEST" : PySem.Str)]) (d := HandSHeadRun.topDef (OpenLaw.row PySem.Challenge.rw_controlplane_k02_what_is_no_name).prog 35) (kwd := []) Lk.ob_eq
    (by kernel_rfl) (fun s => by kernel_rfl) Lk.run (by kernel_rfl) (by kernel_rfl) (by kernel_rfl) (by rfl) (by first | assumption | decide +kernel) (by decide +kernel) ⟨rfl, rfl, rfl, rfl, rfl, by decide +kernel⟩ ?hw ?hc
  case hw => w_witness2
  case hc =>
    refine Lk.walk_ofTG (l := PySem.Challenge.rw_controlplane_k02_what_is_no_name) (n := 63) (k := 120) (x := "_law_script") (CX := fun _ => L2.CX0) rfl (by decide) (by kernel_rfl) ⟨rfl, by decide, by decide⟩ ?F (fun _ _ _ _ _ z => z)
    intro w mg fa h Y G hmg0
    obtain ⟨K, KX, c⟩ := Y
    have hmg : mg ("law" : PySem.Str) = some (.ref fa) := by
      have e : (HandSHeadRun.topDef (OpenLaw.row PySem.Challenge.rw_controlplane_k02_what_is_no_name).prog 35).name = ("law" : PySem.Str) := by kernel_rfl
      rw [← e]
      exact hmg0
    obtain ⟨fd, hb, hF⟩ := Lk.facts (P := (PySem.Challenge.rw_controlplane_k02_what_is_no_name).prog) (w := w) KX G hmg c
    exact ⟨K, KX, fd, Lk.tf.map (He.cT K), Lk.sp_law K, fun p hp => (by obtain ⟨q, hq, rfl⟩ := List.mem_map.mp hp; exact c.empty q hq), fun p hp => (by obtain ⟨q, hq, rfl⟩ := List.mem_map.mp hp; exact c.out q hq), fun p hp => (by obtain ⟨q, hq, rfl⟩ := List.mem_map.mp hp; exact PySem.W.codeHd_of_K KX (c.hd q hq)), hb, fun H a ns hl _ ht hS => ⟨a, ns, rfl, hS, hl, (fun p hp => (by rw [List.mem_singleton.mp hp]; exact LamX.TabS.nil (ht _ (List.mem_singleton.mpr rfl)))), fun _ => rfl⟩, hF⟩

