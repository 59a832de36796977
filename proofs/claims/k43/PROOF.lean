import PyProof.Rows.All
import Wide.All
import OpenK.AllK
import Wide.FinOn
import KE.KStateDown
import Lean
import HandS.ForMost
import HandS.Flow
import HandS.Style
import HandS.Wide
import HandS.IsInst
import HandS.TupAny
import HandS.More
import HandS.WordsExc
import HandS.Defaults
import HandS.Lambda
import HandS.Head0
import HandS.Head1
import HandS.Head2
import HandS.HeadEnd
import HandS.HeadHook1
import HandS.HeadHook2
import HandS.Walk
import HandS.TryOnly
import HandS.StrSplit
import PyProof.Rows.StrSplitMax
import PyProof.StrLawsOccR
import HandS.FStr
import HandS.ExcInit
import HandS.ExcField
import HandS.ExcOwn
import KE.KExcIs
import HandS.HeadHook3
import HandS.HeadHook4
import HandS.HeadWalk
import HandS.EndTab
import HandS.WrittenGet
import PyProof.Rows.StrRev
import KE.KRevSl
import HandS.Replace
import HandS.DictTup
import HandS.MakeKwOnly
import HandS.Deep
import HandS.DeepEq
import HandS.Conv
import KE.DataMinMax
import KE.SortData
import KE.DatumOrd
import KE.KDictWalk
import KE.Datum
import HandS.CallRecv
import HandS.TupAny
import HandS.DictEq
import HandS.SortKw
import PyProof.Claim2Refuses
import KE.KDictCopyH
import KE.SortCalls
import KE.KDictDisplayH
import PySem.Challenge.RW_controlplane_k43_queues_by_a_list
set_option Elab.async false
set_option linter.all false
set_option maxRecDepth 100000
set_option maxHeartbeats 4000000
namespace Lk
open PySem PySem.Spec PyProof.Rows L2
def topS (i : Nat) : Stmt := PySem.Challenge.pw_controlplane_k43_queues_by_a_list.main.body.getD i (.Pass ⟨0, 0, 0, 0⟩)
abbrev s_is_user_name : Stmt := topS 11
abbrev N_is_user_name : List Str := ["value", "sign"]
abbrev ps_is_user_name : List Str := ["value"]
theorem sc_is_user_name : FnScope N_is_user_name ps_is_user_name (defScope s_is_user_name) := ⟨rfl, rfl, rfl, by decide +kernel, rfl, by decide +kernel, by decide +kernel⟩
abbrev s_number_of : Stmt := topS 12
abbrev N_number_of : List Str := ["text", "highest", "sign"]
abbrev ps_number_of : List Str := ["text", "highest"]
theorem sc_number_of : FnScope N_number_of ps_number_of (defScope s_number_of) := ⟨rfl, rfl, rfl, by decide +kernel, rfl, by decide +kernel, by decide +kernel⟩
abbrev s_part_of : Stmt := topS 13
abbrev N_part_of : List Str := ["letter", "text"]
abbrev ps_part_of : List Str := ["letter", "text"]
theorem sc_part_of : FnScope N_part_of ps_part_of (defScope s_part_of) := ⟨rfl, rfl, rfl, by decide +kernel, rfl, by decide +kernel, by decide +kernel⟩
abbrev s_apart : Stmt := topS 14
abbrev N_apart : List Str := ["value", "maker", "end", "what"]
abbrev ps_apart : List Str := ["value"]
theorem sc_apart : FnScope N_apart ps_apart (defScope s_apart) := ⟨rfl, rfl, rfl, by decide +kernel, rfl, by decide +kernel, by decide +kernel⟩
abbrev s_is_maker : Stmt := topS 15
abbrev N_is_maker : List Str := ["value", "letter", "told"]
abbrev ps_is_maker : List Str := ["value", "letter"]
theorem sc_is_maker : FnScope N_is_maker ps_is_maker (defScope s_is_maker) := ⟨rfl, rfl, rfl, by decide +kernel, rfl, by decide +kernel, by decide +kernel⟩
abbrev s_is_name : Stmt := topS 16
abbrev N_is_name : List Str := ["value"]
abbrev ps_is_name : List Str := ["value"]
theorem sc_is_name : FnScope N_is_name ps_is_name (defScope s_is_name) := ⟨rfl, rfl, rfl, by decide +kernel, rfl, by decide +kernel, by decide +kernel⟩
abbrev s_is_integer : Stmt := topS 18
abbrev N_is_integer : List Str := ["value"]
abbrev ps_is_integer : List Str := ["value"]
theorem sc_is_integer : FnScope N_is_integer ps_is_integer (defScope s_is_integer) := ⟨rfl, rfl, rfl, by decide +kernel, rfl, by decide +kernel, by decide +kernel⟩
abbrev s_check_number : Stmt := topS 19
abbrev N_check_number : List Str := ["value", "why", "high"]
abbrev ps_check_number : List Str := ["value", "why", "high"]
theorem sc_check_number : FnScope N_check_number ps_check_number (defScope s_check_number) := ⟨rfl, rfl, rfl, by decide +kernel, rfl, by decide +kernel, by decide +kernel⟩
abbrev s_check_key : Stmt := topS 21
abbrev N_check_key : List Str := ["key"]
abbrev ps_check_key : List Str := ["key"]
theorem sc_check_key : FnScope N_check_key ps_check_key (defScope s_check_key) := ⟨rfl, rfl, rfl, by decide +kernel, rfl, by decide +kernel, by decide +kernel⟩
abbrev s__law_cell_at : Stmt := topS 26
abbrev N__law_cell_at : List Str := ["_law_script", "_law_index"]
abbrev ps__law_cell_at : List Str := ["_law_script", "_law_index"]
theorem sc__law_cell_at : FnScope N__law_cell_at ps__law_cell_at (defScope s__law_cell_at) := ⟨rfl, rfl, rfl, by decide +kernel, rfl, by decide +kernel, by decide +kernel⟩
abbrev s__law_well : Stmt := topS 27
abbrev N__law_well : List Str := ["_law_cell"]
abbrev ps__law_well : List Str := ["_law_cell"]
theorem sc__law_well : FnScope N__law_well ps__law_well (defScope s__law_well) := ⟨rfl, rfl, rfl, by decide +kernel, rfl, by decide +kernel, by decide +kernel⟩
abbrev s__law_draw : Stmt := topS 28
abbrev N__law_draw : List Str := ["_law_well_here", "_law_many", "_law_found", "_law_salt", "_law_base", "_law_number"]
abbrev ps__law_draw : List Str := ["_law_well_here", "_law_many"]
theorem sc__law_draw : FnScope N__law_draw ps__law_draw (defScope s__law_draw) := ⟨rfl, rfl, rfl, by decide +kernel, rfl, by decide +kernel, by decide +kernel⟩
abbrev s__law_one : Stmt := topS 29
abbrev N__law_one : List Str := ["_law_well_here", "_law_some"]
abbrev ps__law_one : List Str := ["_law_well_here", "_law_some"]
theorem sc__law_one : FnScope N__law_one ps__law_one (defScope s__law_one) := ⟨rfl, rfl, rfl, by decide +kernel, rfl, by decide +kernel, by decide +kernel⟩
abbrev s__law_enter : Stmt := topS 30
abbrev N__law_enter : List Str := ["_law_m", "_law_spot", "_law_moment", "_law_known", "_law_behind", "_law_row"]
abbrev ps__law_enter : List Str := ["_law_m", "_law_spot", "_law_moment"]
theorem sc__law_enter : FnScope N__law_enter ps__law_enter (defScope s__law_enter) := ⟨rfl, rfl, rfl, by decide +kernel, rfl, by decide +kernel, by decide +kernel⟩
abbrev s__law_added : Stmt := topS 31
abbrev N__law_added : List Str := ["_law_m", "_law_spot", "_law_moment", "_law_known"]
abbrev ps__law_added : List Str := ["_law_m", "_law_spot", "_law_moment"]
theorem sc__law_added : FnScope N__law_added ps__law_added (defScope s__law_added) := ⟨rfl, rfl, rfl, by decide +kernel, rfl, by decide +kernel, by decide +kernel⟩
abbrev s__law_ended : Stmt := topS 32
abbrev N__law_ended : List Str := ["_law_m", "_law_spot", "_law_moment"]
abbrev ps__law_ended : List Str := ["_law_m", "_law_spot"]
theorem sc__law_ended : FnScope N__law_ended ps__law_ended (defScope s__law_ended) := ⟨rfl, rfl, rfl, by decide +kernel, rfl, by decide +kernel, by decide +kernel⟩
abbrev s__law_step : Stmt := topS 33
abbrev N__law_step : List Str := ["_law_well_here", "_law_queue", "_law_m", "_law_clock", "_law_deed", "_law_spot", "_law_moment", "_law_due", "_law_delay"]
abbrev ps__law_step : List Str := ["_law_well_here", "_law_queue", "_law_m", "_law_clock"]
theorem sc__law_step : FnScope N__law_step ps__law_step (defScope s__law_step) := ⟨rfl, rfl, rfl, by decide +kernel, rfl, by decide +kernel, by decide +kernel⟩
abbrev s__law_stands : Stmt := topS 34
abbrev N__law_stands : List Str := ["_law_queue", "_law_m", "_law_spot"]
abbrev ps__law_stands : List Str := ["_law_queue", "_law_m"]
theorem sc__law_stands : FnScope N__law_stands ps__law_stands (defScope s__law_stands) := ⟨rfl, rfl, rfl, by decide +kernel, rfl, by decide +kernel, by decide +kernel⟩
abbrev s_law : Stmt := topS 35
abbrev N_law : List Str := ["_law_script", "_law_cell", "_law_well_here", "_law_longest", "_law_keys", "_law_queue", "_law_clock", "_law_m", "_law_turn"]
abbrev ps_law : List Str := ["_law_script"]
theorem sc_law : FnScope N_law ps_law (defScope s_law) := ⟨rfl, rfl, rfl, by decide +kernel, rfl, by decide +kernel, by decide +kernel⟩
abbrev s_Queue___init__ : Stmt := inClass (topS 24) 0
abbrev N_Queue___init__ : List Str := ["self", "most"]
abbrev ps_Queue___init__ : List Str := ["self", "most"]
theorem sc_Queue___init__ : FnScope N_Queue___init__ ps_Queue___init__ (defScope s_Queue___init__) := ⟨rfl, rfl, rfl, by decide +kernel, rfl, by decide +kernel, by decide +kernel⟩
abbrev s_Queue_put : Stmt := inClass (topS 24) 1
abbrev N_Queue_put : List Str := ["self", "key", "time"]
abbrev ps_Queue_put : List Str := ["self", "key", "time"]
theorem sc_Queue_put : FnScope N_Queue_put ps_Queue_put (defScope s_Queue_put) := ⟨rfl, rfl, rfl, by decide +kernel, rfl, by decide +kernel, by decide +kernel⟩
abbrev s_Queue_add : Stmt := inClass (topS 24) 2
abbrev N_Queue_add : List Str := ["self", "key", "time", "known"]
abbrev ps_Queue_add : List Str := ["self", "key", "time"]
theorem sc_Queue_add : FnScope N_Queue_add ps_Queue_add (defScope s_Queue_add) := ⟨rfl, rfl, rfl, by decide +kernel, rfl, by decide +kernel, by decide +kernel⟩
abbrev s_Queue_take : Stmt := inClass (topS 24) 3
abbrev N_Queue_take : List Str := ["self", "clock", "due", "key", "entry"]
abbrev ps_Queue_take : List Str := ["self", "clock"]
theorem sc_Queue_take : FnScope N_Queue_take ps_Queue_take (defScope s_Queue_take) := ⟨rfl, rfl, rfl, by decide +kernel, rfl, by decide +kernel, by decide +kernel⟩
abbrev s_Queue_check_taken : Stmt := inClass (topS 24) 4
abbrev N_Queue_check_taken : List Str := ["self", "key"]
abbrev ps_Queue_check_taken : List Str := ["self", "key"]
theorem sc_Queue_check_taken : FnScope N_Queue_check_taken ps_Queue_check_taken (defScope s_Queue_check_taken) := ⟨rfl, rfl, rfl, by decide +kernel, rfl, by decide +kernel, by decide +kernel⟩
abbrev s_Queue_done : Stmt := inClass (topS 24) 5
abbrev N_Queue_done : List Str := ["self", "key", "time"]
abbrev ps_Queue_done : List Str := ["self", "key"]
theorem sc_Queue_done : FnScope N_Queue_done ps_Queue_done (defScope s_Queue_done) := ⟨rfl, rfl, rfl, by decide +kernel, rfl, by decide +kernel, by decide +kernel⟩
abbrev s_Queue_retry : Stmt := inClass (topS 24) 6
abbrev N_Queue_retry : List Str := ["self", "key", "clock"]
abbrev ps_Queue_retry : List Str := ["self", "key", "clock"]
theorem sc_Queue_retry : FnScope N_Queue_retry ps_Queue_retry (defScope s_Queue_retry) := ⟨rfl, rfl, rfl, by decide +kernel, rfl, by decide +kernel, by decide +kernel⟩
abbrev s_Queue_forget : Stmt := inClass (topS 24) 7
abbrev N_Queue_forget : List Str := ["self", "key"]
abbrev ps_Queue_forget : List Str := ["self", "key"]
theorem sc_Queue_forget : FnScope N_Queue_forget ps_Queue_forget (defScope s_Queue_forget) := ⟨rfl, rfl, rfl, by decide +kernel, rfl, by decide +kernel, by decide +kernel⟩
abbrev s_Queue_delay : Stmt := inClass (topS 24) 8
abbrev N_Queue_delay : List Str := ["self", "key"]
abbrev ps_Queue_delay : List Str := ["self", "key"]
theorem sc_Queue_delay : FnScope N_Queue_delay ps_Queue_delay (defScope s_Queue_delay) := ⟨rfl, rfl, rfl, by decide +kernel, rfl, by decide +kernel, by decide +kernel⟩
abbrev s_Queue_waiting : Stmt := inClass (topS 24) 9
abbrev N_Queue_waiting : List Str := ["self", "rows", "key", "entry"]
abbrev ps_Queue_waiting : List Str := ["self"]
theorem sc_Queue_waiting : FnScope N_Queue_waiting ps_Queue_waiting (defScope s_Queue_waiting) := ⟨rfl, rfl, rfl, by decide +kernel, rfl, by decide +kernel, by decide +kernel⟩
abbrev s_Queue_working : Stmt := inClass (topS 24) 10
abbrev N_Queue_working : List Str := ["self"]
abbrev ps_Queue_working : List Str := ["self"]
theorem sc_Queue_working : FnScope N_Queue_working ps_Queue_working (defScope s_Queue_working) := ⟨rfl, rfl, rfl, by decide +kernel, rfl, by decide +kernel, by decide +kernel⟩
abbrev s_Queue_next_time : Stmt := inClass (topS 24) 11
abbrev N_Queue_next_time : List Str := ["self", "entry"]
abbrev ps_Queue_next_time : List Str := ["self"]
theorem sc_Queue_next_time : FnScope N_Queue_next_time ps_Queue_next_time (defScope s_Queue_next_time) := ⟨rfl, rfl, rfl, by decide +kernel, rfl, by decide +kernel, by decide +kernel⟩
abbrev FnP (K : PySem.W.Frag) (x : Str) (st : Stmt) (dvs : List V) (fd : FuncData) : Prop := FunD K x x (defArgs st) (defBody st) (defScope st) dvs [] (He.ga K x) fd
/-! ### a hook that looks at the statics too -/
abbrev asY (g : Addr → Option Obj) : List Addr := cStatics :: He.asD g 6
def obsY (fa : List He.Fa) (fn : List He.DefD) (ts : List He.Tab) (tf : List He.Defn) (ex : PySem.W.Frag → Bool) (g : Addr → Option Obj) : He.AlX :=
  (He.obsT fa fn ts (He.frT g (asY g)), ex (He.frT g (asY g)) && He.tabsB g tf (He.frT g (asY g)))
theorem saysY {fa : List He.Fa} {fn : List He.DefD} {ts : List He.Tab} {tf : List He.Defn} {ex : PySem.W.Frag → Bool} {w : World} {h : Heap} (e : obsY fa fn ts tf ex h.get? = He.valX fn ts w) : He.SaysX fa fn ts tf ex w h (He.frT h.get? (asY h.get?)) := by
  have both : (ex (He.frT h.get? (asY h.get?)) && He.tabsB h.get? tf (He.frT h.get? (asY h.get?))) = true := congrArg (fun z : He.AlX => z.2) e
  obtain ⟨hx, ht⟩ := Bool.and_eq_true_iff.mp both
  have one : ∀ p ∈ tf, PySem.W.codeHdIn (He.frT h.get? (asY h.get?)) (He.cT (He.frT h.get? (asY h.get?)) p).1 (He.cT (He.frT h.get? (asY h.get?)) p).2 = true ∧ ∃ o, h.get? (He.cT (He.frT h.get? (asY h.get?)) p).2 = some o ∧ He.emptyTab o = true := by
    intro p hp
    obtain ⟨a1, a2⟩ := Bool.and_eq_true_iff.mp (List.all_eq_true.mp ht p hp)
    refine ⟨a1, ?_⟩
    split at a2
    · rename_i o q
      exact ⟨o, q, a2⟩
    · cases a2
  refine ⟨congrArg (fun z : He.AlX => z.1) e, hx, fun p hp => (one p hp).1, ?_, ?_⟩
  · intro p hp
    obtain ⟨_, o, q, z⟩ := one p hp
    exact He.frT_none (o := o) q z
  · intro p hp
    obtain ⟨_, o, q, z⟩ := one p hp
    exact q.trans (congrArg some (He.emptyTab_eq z))
def hookY (fa : List He.Fa) (fn : List He.DefD) (ts : List He.Tab) (tf : List He.Defn) (ex : PySem.W.Frag → Bool) : PySem.W.Hook :=
  { α := He.AlX, obs := fun s => obsY fa fn ts tf ex s.heap.get?, val := fun w => He.valX fn ts w, says := fun w h => ∃ K : PySem.W.Frag, K.In h ∧ He.SaysX fa fn ts tf ex w h K,
    of := fun _ _ e => ⟨_, He.frT_in, saysY e⟩,
    keeps := fun _ _ _ hk k => hk.elim fun K hc => ⟨K, PySem.W.Frag.In.keeps hc.1 k, ⟨hc.2.t, hc.2.more, hc.2.hd, hc.2.out, fun p hp => k _ _ (hc.2.empty p hp)⟩⟩ }
theorem obsY_eq {fa : List He.Fa} {fn : List He.DefD} {ts : List He.Tab} {tf : List He.Defn} {ex : PySem.W.Frag → Bool} {g : Addr → Option Obj} {s : Shared} (h : ∀ a, g a = s.heap.get? a) : obsY fa fn ts tf ex g = (hookY fa fn ts tf ex).obs s := by
  rw [show g = s.heap.get? from funext h]
  rfl
/-! the class at C is an own exception class over ValueError: field by field, each field by a look of its own -/
def lookCls (o : Obj) : Option ClassData := match o.data with | .cls cd => some cd | _ => none
def lookTail (C : Addr) : List Value → Option (List Value)
  | .ref b :: bm => if b = C then some bm else none
  | _ => none
abbrev Slot5 : Type := Option Value × Option Value × Option Value × Option Value × Option Value
def lookSlots (l : List (Option Value)) : Option Slot5 := match l with
  | [k0, k1, k2, k3, some (.builtin n), k5] => if n = "ValueError.__new__" then some (k0, k1, k2, k3, k5) else none
  | _ => none
theorem lookCls_of {o : Obj} {cd : ClassData} (h : lookCls o = some cd) : o.data = .cls cd := by
  unfold lookCls at h; split at h <;> first | (cases h; assumption) | cases h
theorem lookTail_of {C : Addr} : ∀ {l bm : List Value}, lookTail C l = some bm → l = .ref C :: bm := by
  intro l bm h; unfold lookTail at h; split at h
  · split at h <;> first | (subst_vars; cases h; rfl) | cases h
  · cases h
theorem lookSlots_of {l : List (Option Value)} {k : Slot5} (h : lookSlots l = some k) : l = [k.1, k.2.1, k.2.2.1, k.2.2.2.1, some (.builtin "ValueError.__new__"), k.2.2.2.2] := by
  unfold lookSlots at h; split at h
  · split at h <;> first | (subst_vars; cases h; rfl) | cases h
  · cases h
def oexAt (C : Addr) (o : Obj) : Bool := match lookCls o, lookSlots o.slots.toList with
  | some cd, some _ => (match lookTail C cd.mro with | some bm => PySem.HandSPX.refsVE bm | none => false) && (cd.hasDict && (!cd.hasDel && decide (o.cls = .type "type")))
  | _, _ => false
def oexB (K : PySem.W.Frag) (C : Addr) : Bool := (match K.lookup C with | some o => oexAt C o | none => false) && (decide (PySem.W.findIn K (.ref C) "__setattr__" = some (some (.builtin "object.__setattr__"))) && (decide (PySem.W.subIn K (.ref C) (.type "BaseException") = some true) && (decide (PySem.W.typeIn K (.ref C) = some (.type "type")) && PySem.W.keepIn K (.ref C))))
/-- the parts put together again -/
theorem oexAt_of {C : Addr} {o : Obj} (h : oexAt C o = true) : ∃ nm q N bs bm sn sub ab col dd k0 k1 k2 k3 k5, o = excClassObj nm q C N bs bm true sn sub ab col dd k0 k1 k2 k3 k5 "ValueError.__new__" ∧ PySem.HandSPX.refsVE bm = true := by
  unfold oexAt at h
  cases e1 : lookCls o with
  | none => rw [e1] at h; exact Bool.noConfusion h
  | some cd =>
    cases e2 : lookSlots o.slots.toList with
    | none => rw [e1, e2] at h; exact Bool.noConfusion h
    | some k =>
      rw [e1, e2] at h
      have ⟨tail, h⟩ := Bool.and_eq_true_iff.mp h
      have ⟨hasD, h⟩ := Bool.and_eq_true_iff.mp h
      have ⟨noDel, ty⟩ := Bool.and_eq_true_iff.mp h
      cases e3 : lookTail C cd.mro with
      | none => rw [e3] at tail; exact Bool.noConfusion tail
      | some bm =>
        rw [e3] at tail
        have data := lookCls_of e1
        have slots := lookSlots_of e2
        have mro := lookTail_of e3
        have tyE := of_decide_eq_true ty
        clear ty
        have dele : cd.hasDel = false := (Bool.not_eq_true' _).mp noDel
        clear noDel e1 e2 e3 h
        refine ⟨cd.name, cd.qualname, cd.ns, cd.bases, bm, cd.slotNames, cd.subclasses, cd.abstract, cd.collection, o.dict, k.1, k.2.1, k.2.2.1, k.2.2.2.1, k.2.2.2.2, ?_, tail⟩
        obtain ⟨ocls, odict, odata, ⟨osl⟩⟩ := o
        obtain ⟨nm, bs, mr, nsp, qn, hd, sn, sub, ab, col, del⟩ := cd
        dsimp only at data slots mro tyE dele hasD ⊢
        subst data slots mro tyE dele hasD
        rfl
theorem oexB_ok {K : PySem.W.Frag} {C : Addr} (h : oexB K C = true) : OexC K C := by
  unfold oexB at h
  have ⟨at_, h⟩ := Bool.and_eq_true_iff.mp h
  have ⟨sa, h⟩ := Bool.and_eq_true_iff.mp h
  have ⟨exC, h⟩ := Bool.and_eq_true_iff.mp h
  have ⟨tyC, kC⟩ := Bool.and_eq_true_iff.mp h
  cases look : K.lookup C with
  | none => rw [look] at at_; exact Bool.noConfusion at_
  | some o =>
    rw [look] at at_
    have ⟨nm, q, N, bs, bm, sn, sub, ab, col, dd, k0, k1, k2, k3, k5, e, ve⟩ := oexAt_of at_
    exact ⟨⟨nm, q, N, bs, bm, sn, sub, ab, col, dd, k0, k1, k2, k3, k5, e ▸ look, ve⟩, of_decide_eq_true sa, of_decide_eq_true exC, of_decide_eq_true tyC, kC⟩
/-- what isinstance and the fields of a caught error ask of its class -/
def excB (K : PySem.W.Frag) (C : Addr) : Bool := (PySem.W.clsIn K C).isSome && (xfB K C && (decide (PySem.W.findIn K (.ref C) "__class__" = some (some (.builtin "object.__class__"))) &&
  (decide (PySem.W.specialIn K (.builtin "object.__class__") "__get__" = some (some (.builtin "getset_descriptor.__get__"))) && (decide (PySem.W.takesIn K (.builtin "object.__class__") = some true) && decide (PySem.W.mroIn K C (.type "object") = some true)))))
def veiB (K : PySem.W.Frag) : Bool := match PySem.W.findCls K (.type "ValueError") (.type "type") "__init__" with
  | some (.val (.builtin x)) => decide (x = "ValueError.__init__")
  | _ => false
theorem veiB_ok {K : PySem.W.Frag} (h : veiB K = true) : PySem.W.findCls K (.type "ValueError") (.type "type") "__init__" = some (.val (.builtin "ValueError.__init__")) := by
  unfold veiB at h
  split at h
  · rename_i x e
    rw [e, of_decide_eq_true h]
  · cases h
def cfB (K : PySem.W.Frag) (C f : Addr) : Bool := match PySem.W.findCls K (.ref C) (.type "type") "__init__" with
  | some (.val (.ref x)) => decide (x = f)
  | _ => false
theorem cfB_ok {K : PySem.W.Frag} {C f : Addr} (h : cfB K C f = true) : PySem.W.findCls K (.ref C) (.type "type") "__init__" = some (.val (.ref f)) := by
  unfold cfB at h
  split at h
  · rename_i x e
    rw [e, of_decide_eq_true h]
  · cases h
def exL (K : PySem.W.Frag) : List Bool := [veiB K,
  He.valsB K (He.ga K "HIGHEST") [("s", .int 99), ("j", .int 99), ("r", .int 999999)]]
def exB (K : PySem.W.Frag) : Bool := (exL K).all id
theorem exAt {K : PySem.W.Frag} (h : exB K = true) (i : Nat) {b : Bool} (e : (exL K)[i]? = some b) : b = true := List.all_eq_true.mp h b (List.mem_of_getElem? e)
structure ExT (K : PySem.W.Frag) : Prop where
  vei : PySem.W.findCls K (.type "ValueError") (.type "type") "__init__" = some (.val (.builtin "ValueError.__init__"))
  val_HIGHEST : He.valsB K (He.ga K "HIGHEST") [("s", .int 99), ("j", .int 99), ("r", .int 999999)] = true
theorem exT {K : PySem.W.Frag} (h : exB K = true) : ExT K := ⟨veiB_ok (exAt h 0 rfl),
  id (exAt h 1 rfl)⟩
structure Txt (K : PySem.W.Frag) (mg : Str → Option Value) (w : World) : Prop where
  g_is_user_name : mg "is_user_name" = some (.ref (He.ga K "is_user_name"))
  d_is_user_name : ∃ fd, FnP K "is_user_name" s_is_user_name [] fd
  g_number_of : mg "number_of" = some (.ref (He.ga K "number_of"))
  d_number_of : ∃ fd, FnP K "number_of" s_number_of [] fd
  g_part_of : mg "part_of" = some (.ref (He.ga K "part_of"))
  d_part_of : ∃ fd, FnP K "part_of" s_part_of [] fd
  g_apart : mg "apart" = some (.ref (He.ga K "apart"))
  d_apart : ∃ fd, FnP K "apart" s_apart [] fd
  g_is_maker : mg "is_maker" = some (.ref (He.ga K "is_maker"))
  d_is_maker : ∃ fd, FnP K "is_maker" s_is_maker [] fd
  g_is_name : mg "is_name" = some (.ref (He.ga K "is_name"))
  d_is_name : ∃ fd, FnP K "is_name" s_is_name [] fd
  g_is_integer : mg "is_integer" = some (.ref (He.ga K "is_integer"))
  d_is_integer : ∃ fd, FnP K "is_integer" s_is_integer [] fd
  g_check_number : mg "check_number" = some (.ref (He.ga K "check_number"))
  d_check_number : ∃ fd, FnP K "check_number" s_check_number [.non] fd
  g_check_key : mg "check_key" = some (.ref (He.ga K "check_key"))
  d_check_key : ∃ fd, FnP K "check_key" s_check_key [] fd
  g__law_cell_at : mg "_law_cell_at" = some (.ref (He.ga K "_law_cell_at"))
  d__law_cell_at : ∃ fd, FnP K "_law_cell_at" s__law_cell_at [] fd
  g__law_well : mg "_law_well" = some (.ref (He.ga K "_law_well"))
  d__law_well : ∃ fd, FnP K "_law_well" s__law_well [] fd
  g__law_draw : mg "_law_draw" = some (.ref (He.ga K "_law_draw"))
  d__law_draw : ∃ fd, FnP K "_law_draw" s__law_draw [] fd
  g__law_one : mg "_law_one" = some (.ref (He.ga K "_law_one"))
  d__law_one : ∃ fd, FnP K "_law_one" s__law_one [] fd
  g__law_enter : mg "_law_enter" = some (.ref (He.ga K "_law_enter"))
  d__law_enter : ∃ fd, FnP K "_law_enter" s__law_enter [] fd
  g__law_added : mg "_law_added" = some (.ref (He.ga K "_law_added"))
  d__law_added : ∃ fd, FnP K "_law_added" s__law_added [] fd
  g__law_ended : mg "_law_ended" = some (.ref (He.ga K "_law_ended"))
  d__law_ended : ∃ fd, FnP K "_law_ended" s__law_ended [] fd
  g__law_step : mg "_law_step" = some (.ref (He.ga K "_law_step"))
  d__law_step : ∃ fd, FnP K "_law_step" s__law_step [] fd
  g__law_stands : mg "_law_stands" = some (.ref (He.ga K "_law_stands"))
  d__law_stands : ∃ fd, FnP K "_law_stands" s__law_stands [] fd
  g_law : mg "law" = some (.ref (He.ga K "law"))
  d_law : ∃ fd, FnP K "law" s_law [] fd
  d_Queue___init__ : ∃ fd, FunD K "__init__" "Queue.__init__" (defArgs s_Queue___init__) (defBody s_Queue___init__) (defScope s_Queue___init__) [] [("most", .int 1)] (He.fAd K ("Queue", some "__init__")) fd
  d_Queue_put : ∃ fd, FunD K "put" "Queue.put" (defArgs s_Queue_put) (defBody s_Queue_put) (defScope s_Queue_put) [] [] (He.fAd K ("Queue", some "put")) fd
  d_Queue_add : ∃ fd, FunD K "add" "Queue.add" (defArgs s_Queue_add) (defBody s_Queue_add) (defScope s_Queue_add) [] [] (He.fAd K ("Queue", some "add")) fd
  d_Queue_take : ∃ fd, FunD K "take" "Queue.take" (defArgs s_Queue_take) (defBody s_Queue_take) (defScope s_Queue_take) [] [] (He.fAd K ("Queue", some "take")) fd
  d_Queue_check_taken : ∃ fd, FunD K "check_taken" "Queue.check_taken" (defArgs s_Queue_check_taken) (defBody s_Queue_check_taken) (defScope s_Queue_check_taken) [] [] (He.fAd K ("Queue", some "check_taken")) fd
  d_Queue_done : ∃ fd, FunD K "done" "Queue.done" (defArgs s_Queue_done) (defBody s_Queue_done) (defScope s_Queue_done) [] [] (He.fAd K ("Queue", some "done")) fd
  d_Queue_retry : ∃ fd, FunD K "retry" "Queue.retry" (defArgs s_Queue_retry) (defBody s_Queue_retry) (defScope s_Queue_retry) [] [] (He.fAd K ("Queue", some "retry")) fd
  d_Queue_forget : ∃ fd, FunD K "forget" "Queue.forget" (defArgs s_Queue_forget) (defBody s_Queue_forget) (defScope s_Queue_forget) [] [] (He.fAd K ("Queue", some "forget")) fd
  d_Queue_delay : ∃ fd, FunD K "delay" "Queue.delay" (defArgs s_Queue_delay) (defBody s_Queue_delay) (defScope s_Queue_delay) [] [] (He.fAd K ("Queue", some "delay")) fd
  d_Queue_waiting : ∃ fd, FunD K "waiting" "Queue.waiting" (defArgs s_Queue_waiting) (defBody s_Queue_waiting) (defScope s_Queue_waiting) [] [] (He.fAd K ("Queue", some "waiting")) fd
  d_Queue_working : ∃ fd, FunD K "working" "Queue.working" (defArgs s_Queue_working) (defBody s_Queue_working) (defScope s_Queue_working) [] [] (He.fAd K ("Queue", some "working")) fd
  d_Queue_next_time : ∃ fd, FunD K "next_time" "Queue.next_time" (defArgs s_Queue_next_time) (defBody s_Queue_next_time) (defScope s_Queue_next_time) [] [] (He.fAd K ("Queue", some "next_time")) fd
  g_PlaneError : mg "PlaneError" = some (.ref (He.ga K "PlaneError"))
  g_BadKey : mg "BadKey" = some (.ref (He.ga K "BadKey"))
  g_BadValue : mg "BadValue" = some (.ref (He.ga K "BadValue"))
  g_NotTaken : mg "NotTaken" = some (.ref (He.ga K "NotTaken"))
  g_Queue : mg "Queue" = some (.ref (He.ga K "Queue"))
  n_len : mg "len" = none
  n_int : mg "int" = none
  n_bool : mg "bool" = none
  n_str : mg "str" = none
  n_tuple : mg "tuple" = none
  n_range : mg "range" = none
  n_isinstance : mg "isinstance" = none
  n_max : mg "max" = none
  n_min : mg "min" = none
  n_all : mg "all" = none
  n_sorted : mg "sorted" = none
  n_ValueError : mg "ValueError" = none
  c_SMALL : ∃ t, mg "SMALL" = some (.str "abcdefghijklmnopqrstuvwxyz" t)
  c_DIGITS : ∃ t, mg "DIGITS" = some (.str "0123456789" t)
  c_MOST_SIGNS : ∃ t, mg "MOST_SIGNS" = some (.int 10 t)
  c_MOST_MADE : ∃ t, mg "MOST_MADE" = some (.int 22 t)
  c_MOST_DELAY : ∃ t, mg "MOST_DELAY" = some (.int 1000 t)
  g_HIGHEST : mg "HIGHEST" = some (.ref (He.ga K "HIGHEST"))
  cl_Queue : Cls K (He.ga K "Queue")
  mk_Queue : Mk K (He.ga K "Queue") (He.fAd K ("Queue", some "__init__"))
  no_Queue_longest : NoAttr K (He.ga K "Queue") "longest"
  no_Queue_entries : NoAttr K (He.ga K "Queue") "entries"
  no_Queue_taken : NoAttr K (He.ga K "Queue") "taken"
  no_Queue_delays : NoAttr K (He.ga K "Queue") "delays"
  no_Queue_count : NoAttr K (He.ga K "Queue") "count"
  m_Queue_put : Meth K (He.ga K "Queue") "put" (He.fAd K ("Queue", some "put"))
  m_Queue_add : Meth K (He.ga K "Queue") "add" (He.fAd K ("Queue", some "add"))
  m_Queue_take : Meth K (He.ga K "Queue") "take" (He.fAd K ("Queue", some "take"))
  m_Queue_check_taken : Meth K (He.ga K "Queue") "check_taken" (He.fAd K ("Queue", some "check_taken"))
  m_Queue_done : Meth K (He.ga K "Queue") "done" (He.fAd K ("Queue", some "done"))
  m_Queue_retry : Meth K (He.ga K "Queue") "retry" (He.fAd K ("Queue", some "retry"))
  m_Queue_forget : Meth K (He.ga K "Queue") "forget" (He.fAd K ("Queue", some "forget"))
  m_Queue_delay : Meth K (He.ga K "Queue") "delay" (He.fAd K ("Queue", some "delay"))
  m_Queue_waiting : Meth K (He.ga K "Queue") "waiting" (He.fAd K ("Queue", some "waiting"))
  m_Queue_working : Meth K (He.ga K "Queue") "working" (He.fAd K ("Queue", some "working"))
  m_Queue_next_time : Meth K (He.ga K "Queue") "next_time" (He.fAd K ("Queue", some "next_time"))
  ex : exB K = true
  kd_HIGHEST : ∃ es n, KDict K w (He.ga K "HIGHEST") es n
theorem bi_is_user_name {K : PySem.W.Frag} {fd : FuncData} (F : FnP K "is_user_name" s_is_user_name [] fd) : Binds K fd ps_is_user_name [] := F.bindsN (fun _ _ _ _ _ _ us hl => match us, hl with | [_], _ => rfl)
theorem bi_number_of {K : PySem.W.Frag} {fd : FuncData} (F : FnP K "number_of" s_number_of [] fd) : Binds K fd ps_number_of [] := F.bindsN (fun _ _ _ _ _ _ us hl => match us, hl with | [_, _], _ => rfl)
theorem bi_part_of {K : PySem.W.Frag} {fd : FuncData} (F : FnP K "part_of" s_part_of [] fd) : Binds K fd ps_part_of [] := F.bindsN (fun _ _ _ _ _ _ us hl => match us, hl with | [_, _], _ => rfl)
theorem bi_apart {K : PySem.W.Frag} {fd : FuncData} (F : FnP K "apart" s_apart [] fd) : Binds K fd ps_apart [] := F.bindsN (fun _ _ _ _ _ _ us hl => match us, hl with | [_], _ => rfl)
theorem bi_is_maker {K : PySem.W.Frag} {fd : FuncData} (F : FnP K "is_maker" s_is_maker [] fd) : Binds K fd ps_is_maker [] := F.bindsN (fun _ _ _ _ _ _ us hl => match us, hl with | [_, _], _ => rfl)
theorem bi_is_name {K : PySem.W.Frag} {fd : FuncData} (F : FnP K "is_name" s_is_name [] fd) : Binds K fd ps_is_name [] := F.bindsN (fun _ _ _ _ _ _ us hl => match us, hl with | [_], _ => rfl)
theorem bi_is_integer {K : PySem.W.Frag} {fd : FuncData} (F : FnP K "is_integer" s_is_integer [] fd) : Binds K fd ps_is_integer [] := F.bindsN (fun _ _ _ _ _ _ us hl => match us, hl with | [_], _ => rfl)
theorem bi_check_number {K : PySem.W.Frag} {fd : FuncData} (F : FnP K "check_number" s_check_number [.non] fd) : ∃ ds, Vals ([.non] : List V) ds ∧ Binds K fd ps_check_number ds := FunD.binds1 F 2 0 (by simp) (by rfl) fun _ _ _ _ _ _ _ us its h1 h2 => match us, its, h1, h2 with | [_, _], [_], _, _ => ⟨_, rfl, rfl⟩
theorem bi_check_key {K : PySem.W.Frag} {fd : FuncData} (F : FnP K "check_key" s_check_key [] fd) : Binds K fd ps_check_key [] := F.bindsN (fun _ _ _ _ _ _ us hl => match us, hl with | [_], _ => rfl)
theorem bi__law_cell_at {K : PySem.W.Frag} {fd : FuncData} (F : FnP K "_law_cell_at" s__law_cell_at [] fd) : Binds K fd ps__law_cell_at [] := F.bindsN (fun _ _ _ _ _ _ us hl => match us, hl with | [_, _], _ => rfl)
theorem bi__law_well {K : PySem.W.Frag} {fd : FuncData} (F : FnP K "_law_well" s__law_well [] fd) : Binds K fd ps__law_well [] := F.bindsN (fun _ _ _ _ _ _ us hl => match us, hl with | [_], _ => rfl)
theorem bi__law_draw {K : PySem.W.Frag} {fd : FuncData} (F : FnP K "_law_draw" s__law_draw [] fd) : Binds K fd ps__law_draw [] := F.bindsN (fun _ _ _ _ _ _ us hl => match us, hl with | [_, _], _ => rfl)
theorem bi__law_one {K : PySem.W.Frag} {fd : FuncData} (F : FnP K "_law_one" s__law_one [] fd) : Binds K fd ps__law_one [] := F.bindsN (fun _ _ _ _ _ _ us hl => match us, hl with | [_, _], _ => rfl)
theorem bi__law_enter {K : PySem.W.Frag} {fd : FuncData} (F : FnP K "_law_enter" s__law_enter [] fd) : Binds K fd ps__law_enter [] := F.bindsN (fun _ _ _ _ _ _ us hl => match us, hl with | [_, _, _], _ => rfl)
theorem bi__law_added {K : PySem.W.Frag} {fd : FuncData} (F : FnP K "_law_added" s__law_added [] fd) : Binds K fd ps__law_added [] := F.bindsN (fun _ _ _ _ _ _ us hl => match us, hl with | [_, _, _], _ => rfl)
theorem bi__law_ended {K : PySem.W.Frag} {fd : FuncData} (F : FnP K "_law_ended" s__law_ended [] fd) : Binds K fd ps__law_ended [] := F.bindsN (fun _ _ _ _ _ _ us hl => match us, hl with | [_, _], _ => rfl)
theorem bi__law_step {K : PySem.W.Frag} {fd : FuncData} (F : FnP K "_law_step" s__law_step [] fd) : Binds K fd ps__law_step [] := F.bindsN (fun _ _ _ _ _ _ us hl => match us, hl with | [_, _, _, _], _ => rfl)
theorem bi__law_stands {K : PySem.W.Frag} {fd : FuncData} (F : FnP K "_law_stands" s__law_stands [] fd) : Binds K fd ps__law_stands [] := F.bindsN (fun _ _ _ _ _ _ us hl => match us, hl with | [_, _], _ => rfl)
theorem bi_law {K : PySem.W.Frag} {fd : FuncData} (F : FnP K "law" s_law [] fd) : Binds K fd ps_law [] := F.bindsN (fun _ _ _ _ _ _ us hl => match us, hl with | [_], _ => rfl)
theorem bi_Queue_put {K : PySem.W.Frag} {fd : FuncData} (F : FunD K "put" "Queue.put" (defArgs s_Queue_put) (defBody s_Queue_put) (defScope s_Queue_put) [] [] (He.fAd K ("Queue", some "put")) fd) : Binds K fd ps_Queue_put [] := F.bindsN (fun _ _ _ _ _ _ us hl => match us, hl with | [_, _, _], _ => rfl)
theorem bi_Queue_add {K : PySem.W.Frag} {fd : FuncData} (F : FunD K "add" "Queue.add" (defArgs s_Queue_add) (defBody s_Queue_add) (defScope s_Queue_add) [] [] (He.fAd K ("Queue", some "add")) fd) : Binds K fd ps_Queue_add [] := F.bindsN (fun _ _ _ _ _ _ us hl => match us, hl with | [_, _, _], _ => rfl)
theorem bi_Queue_take {K : PySem.W.Frag} {fd : FuncData} (F : FunD K "take" "Queue.take" (defArgs s_Queue_take) (defBody s_Queue_take) (defScope s_Queue_take) [] [] (He.fAd K ("Queue", some "take")) fd) : Binds K fd ps_Queue_take [] := F.bindsN (fun _ _ _ _ _ _ us hl => match us, hl with | [_, _], _ => rfl)
theorem bi_Queue_check_taken {K : PySem.W.Frag} {fd : FuncData} (F : FunD K "check_taken" "Queue.check_taken" (defArgs s_Queue_check_taken) (defBody s_Queue_check_taken) (defScope s_Queue_check_taken) [] [] (He.fAd K ("Queue", some "check_taken")) fd) : Binds K fd ps_Queue_check_taken [] := F.bindsN (fun _ _ _ _ _ _ us hl => match us, hl with | [_, _], _ => rfl)
theorem bi_Queue_done {K : PySem.W.Frag} {fd : FuncData} (F : FunD K "done" "Queue.done" (defArgs s_Queue_done) (defBody s_Queue_done) (defScope s_Queue_done) [] [] (He.fAd K ("Queue", some "done")) fd) : Binds K fd ps_Queue_done [] := F.bindsN (fun _ _ _ _ _ _ us hl => match us, hl with | [_, _], _ => rfl)
theorem bi_Queue_retry {K : PySem.W.Frag} {fd : FuncData} (F : FunD K "retry" "Queue.retry" (defArgs s_Queue_retry) (defBody s_Queue_retry) (defScope s_Queue_retry) [] [] (He.fAd K ("Queue", some "retry")) fd) : Binds K fd ps_Queue_retry [] := F.bindsN (fun _ _ _ _ _ _ us hl => match us, hl with | [_, _, _], _ => rfl)
theorem bi_Queue_forget {K : PySem.W.Frag} {fd : FuncData} (F : FunD K "forget" "Queue.forget" (defArgs s_Queue_forget) (defBody s_Queue_forget) (defScope s_Queue_forget) [] [] (He.fAd K ("Queue", some "forget")) fd) : Binds K fd ps_Queue_forget [] := F.bindsN (fun _ _ _ _ _ _ us hl => match us, hl with | [_, _], _ => rfl)
theorem bi_Queue_delay {K : PySem.W.Frag} {fd : FuncData} (F : FunD K "delay" "Queue.delay" (defArgs s_Queue_delay) (defBody s_Queue_delay) (defScope s_Queue_delay) [] [] (He.fAd K ("Queue", some "delay")) fd) : Binds K fd ps_Queue_delay [] := F.bindsN (fun _ _ _ _ _ _ us hl => match us, hl with | [_, _], _ => rfl)
theorem bi_Queue_waiting {K : PySem.W.Frag} {fd : FuncData} (F : FunD K "waiting" "Queue.waiting" (defArgs s_Queue_waiting) (defBody s_Queue_waiting) (defScope s_Queue_waiting) [] [] (He.fAd K ("Queue", some "waiting")) fd) : Binds K fd ps_Queue_waiting [] := F.bindsN (fun _ _ _ _ _ _ us hl => match us, hl with | [_], _ => rfl)
theorem bi_Queue_working {K : PySem.W.Frag} {fd : FuncData} (F : FunD K "working" "Queue.working" (defArgs s_Queue_working) (defBody s_Queue_working) (defScope s_Queue_working) [] [] (He.fAd K ("Queue", some "working")) fd) : Binds K fd ps_Queue_working [] := F.bindsN (fun _ _ _ _ _ _ us hl => match us, hl with | [_], _ => rfl)
theorem bi_Queue_next_time {K : PySem.W.Frag} {fd : FuncData} (F : FunD K "next_time" "Queue.next_time" (defArgs s_Queue_next_time) (defBody s_Queue_next_time) (defScope s_Queue_next_time) [] [] (He.fAd K ("Queue", some "next_time")) fd) : Binds K fd ps_Queue_next_time [] := F.bindsN (fun _ _ _ _ _ _ us hl => match us, hl with | [_], _ => rfl)

/-! ### the heap: what a def with a source of draws leaves -/
/-- all that was tracked, but what stands at a, is as it was -/
def Keep (a : Addr) (H H' : Hp) : Prop := ∀ b o, b ≠ a → H b = some o → H' b = some o
theorem Keep.refl (a : Addr) (H : Hp) : Keep a H H := fun _ _ _ h => h
theorem Keep.trans {a : Addr} {H H1 H2 : Hp} (x : Keep a H H1) (y : Keep a H1 H2) : Keep a H H2 := fun b o n h => y b o n (x b o n h)
theorem Keep.of {a : Addr} {H H1 : Hp} (x : Same H H1) : Keep a H H1 := fun b o _ h => x b o h
theorem Keep.at_ {a : Addr} {H : Hp} {u : HO} : Keep a H (upd H a u) := fun b o n h => by rw [upd_ne n]; exact h
theorem Same.new {H : Hp} {p : Addr} {u : HO} (n : H p = none) : Same H (upd H p u) := fun b o h => by rw [upd_ne (ne_of_none h n)]; exact h
theorem Keep.new {a : Addr} {H : Hp} {p : Addr} {u : HO} (n : H p = none) : Keep a H (upd H p u) := Keep.of (Same.new n)
theorem Keep.seqL {K : PySem.W.Frag} {a b : Addr} {H H1 : Hp} {xs : List V} (x : Keep a H H1) (n : b ≠ a) (h : SqL K H b xs) : SqL K H1 b xs := by
  rcases h with (h | ⟨o, h⟩) | h
  · exact .inl (.inl (x _ _ n h))
  · exact .inl (.inr ⟨o, x _ _ n h⟩)
  · exact .inr h
theorem Keep.seqT {K : PySem.W.Frag} {a b : Addr} {H H1 : Hp} {xs : List V} (x : Keep a H H1) (n : b ≠ a) (h : SqT K H b xs) : SqT K H1 b xs := by
  rcases h with (h | ⟨o, h⟩) | h
  · exact .inl (.inl (x _ _ n h))
  · exact .inl (.inr ⟨o, x _ _ n h⟩)
  · exact .inr h
/-- a flat value: None, a bool, an int, a text -/
def flat : V → Prop
  | .non => True
  | .bl _ => True
  | .int _ => True
  | .str _ => True
  | _ => False
def tyNm : V → Value
  | .non => .type "NoneType"
  | .bl _ => .type "bool"
  | .int _ => .type "int"
  | _ => .type "str"
theorem flat_ty {K : PySem.W.Frag} {H : Hp} {x : V} (h : flat x) : TyX K H x (tyNm x) := by
  cases x with
  | non => exact .base .non
  | bl b => exact .base (.bl b)
  | int i => exact .base (.int i)
  | str z => exact .base (.str z)
  | byt _ => exact h.elim
  | flt _ => exact h.elim
  | ref _ => exact h.elim
  | ty _ => exact h.elim
theorem small3 : (3 : Nat) ≤ sizeLine := by rw [sizeLine_eq]; decide
theorem smallN {n : Nat} (h : n ≤ 1000) : n ≤ sizeLine := Nat.le_of_lt (small1000 h)
theorem yes_ {σ : L2.St} {H : Hp} {Q : Bool → Hp → Prop} (h : Q true H) : tYes σ H Q := h
theorem get_take {α : Type} {xs : List α} {i : Nat} {x : α} (h : xs[i]? = some x) : xs.take (i + 1) = xs.take i ++ [x] := by
  rw [List.take_succ, h]; rfl
theorem mem_at {α : Type} {xs : List α} {i : Nat} {x : α} (h : xs[i]? = some x) : x ∈ xs := List.mem_of_getElem? h
theorem lt_at {α : Type} {xs : List α} {i : Nat} {x : α} (h : xs[i]? = some x) : i < xs.length := (List.getElem?_eq_some_iff.mp h).1
/-! ### flat values as data -/
def dOf : V → PyData
  | .bl b => .bool b
  | .int i => .int i
  | .str z => .str z
  | _ => .none
theorem dp_flat {K : PySem.W.Frag} {H : Hp} {x : V} (h : flat x) : Dp K H x (dOf x) := by
  cases x with
  | non => exact .non
  | bl b => exact .bl b
  | int i => exact .int i
  | str z => exact .str z
  | byt _ => exact h.elim
  | flt _ => exact h.elim
  | ref _ => exact h.elim
  | ty _ => exact h.elim
theorem dps_flat {K : PySem.W.Frag} {H : Hp} : ∀ {xs : List V}, (∀ x ∈ xs, flat x) → DpAll K H xs (xs.map dOf)
  | [], _ => .nil
  | x :: xs, h => .cons (dp_flat (h x (List.mem_cons_self ..))) (dps_flat fun y hy => h y (List.mem_cons_of_mem _ hy))
/-- a text of signs that there are -/
def okS : V → Prop
  | .str z => PyData.strOk z = true
  | _ => True
theorem lay_flat {x : V} (h : okS x) : (dOf x).canLay0 = true := by
  cases x with
  | str z => exact (show PyData.canLay0 (.str z) = true by simpa [PyData.canLay0, okS] using h)
  | _ => simp [dOf, PyData.canLay0]
theorem lays_flat : ∀ {xs : List V}, (∀ x ∈ xs, okS x) → PyData.canLayAll0 (xs.map dOf) = true
  | [], _ => by simp [PyData.canLayAll0]
  | x :: xs, h => by simp [PyData.canLayAll0, lay_flat (h x (List.mem_cons_self ..)), lays_flat (xs := xs) fun y hy => h y (List.mem_cons_of_mem _ hy)]
theorem dep_flat (x : V) : (dOf x).depth = 0 := by cases x <;> simp [dOf, PyData.depth]
theorem deps_flat : ∀ xs : List V, PyData.depthAll (xs.map dOf) = 0
  | [] => by simp [PyData.depthAll]
  | x :: xs => by simp [PyData.depthAll, dep_flat x, deps_flat xs]
theorem sh_flat {x : V} (h : okS x) : SeqAt.shaped (dOf x) = true := by simp [SeqAt.shaped, lay_flat h, dep_flat x]
theorem sh_list {xs : List V} (h : ∀ x ∈ xs, okS x) : SeqAt.shaped (.list (xs.map dOf)) = true := by simp [SeqAt.shaped, PyData.canLay0, PyData.depth, lays_flat h, deps_flat xs]
theorem sh_tup {xs : List V} (h : ∀ x ∈ xs, okS x) : SeqAt.shaped (.tuple (xs.map dOf)) = true := by simp [SeqAt.shaped, PyData.canLay0, PyData.depth, lays_flat h, deps_flat xs]
theorem eqv_nil (xs : List V) : PyData.eqv (.list (xs.map dOf)) (.list []) = xs.isEmpty := by
  cases xs <;> simp [PyData.eqv, PyData.eqvAll]
/-- len of a list or a tuple, within a comprehension -/
def rLenK (K : PySem.W.Frag) : List V → Hp → VK → Prop := fun xs H Q => ∃ p ys, xs = [V.ref p] ∧ (SqL K H p ys ∨ SqT K H p ys) ∧ Q (V.int ys.length) H
/-- dict(pairs), within a comprehension -/
def rDictP (K : PySem.W.Frag) : List V → Hp → VK → Prop := fun xs H Q => ∃ (a : Addr) (ps : List Addr) (kvs : List (Key × V)), xs = [.ref a] ∧ SqL K H a (ps.map V.ref) ∧ Paired (fun p kv => SqT K H p [kV kv.1, kv.2]) ps kvs ∧
  ∀ p, H p = none → Q (.ref p) (upd H p (.dK (mergeK [] kvs)))
theorem lay_same {H H' : Hp} {l : Addr} {u : HO} (e : upd H l u = H') (h : H l = none) : Same H H' := e ▸ Same.new h
theorem lay_at {H H' : Hp} {l : Addr} {u : HO} (e : upd H l u = H') : H' l = some u := e ▸ upd_same

/-! ### the source of draws: [digits, a number, a count] -/
def WellO (u : HO) (n : Nat) : Prop := ∃ x y : Int, u = .lst [.int x, .int y, .int (n : Int)]
def WellAt (H : Hp) (a : Addr) (n : Nat) : Prop := ∃ u, H a = some u ∧ WellO u n
def sp__law_cell_at (K : PySem.W.Frag) : Sp := fun vs H Q _ => ∃ (a : Addr) (ns : List Int), vs = [.ref a, .int 0] ∧ SqL K H a (ns.map V.int) ∧ ∀ i : Int, Q (.int i) H
theorem ok__law_cell_at {P : Program} {w : World} {K : PySem.W.Frag} {mg : Str → Option Value} {base : Heap} {fd : FuncData} (T : Txt K mg w) (F : FnP K "_law_cell_at" s__law_cell_at [] fd) : FnOk P w K mg base CX0 1 (He.ga K "_law_cell_at") fd ps__law_cell_at (sp__law_cell_at K) := by
  refine F.ok sc__law_cell_at (fun vs H Q E h => ?len) (fun cdv A outer s H vs Q E hr h => ?body)
  case len => obtain ⟨a, ns, rfl, hS, k⟩ := h; rfl
  case body =>
  obtain ⟨a, ns, rfl, hS, k⟩ := h
  have hu := hu_of hr
  refine ⟨_, PSs.nox (pss_cons (ps_if (pt_cmpR op_lt (pv 1) (pe_callB call_len_seq (by rfl) T.n_len (by decide +kernel) (pa_cons (pv 0) pa_nil)) (nomark _)) (pss_one (ps_ret (pe_ix ix_list (pv 0) (pv 1) (fun _ _ => rfl)))) pss_nil)
    (pss_one (ps_ret pe_int))), ?_⟩
  refine ⟨_, rfl, _, rfl, a, _, rfl, .inl hS, _, _, rfl, rfl, _, rfl, ?_⟩
  refine ite2 (fun hlt => ?_) (fun _ => k 0)
  cases ns with
  | nil => simp at hlt
  | cons i r => exact ⟨_, rfl, _, rfl, a, _, 0, .int i, rfl, rfl, hS, atI_nat (j := 0) rfl, k i⟩
def sp__law_well (K : PySem.W.Frag) : Sp := fun vs H Q _ => ∃ (i : Int), vs = [.int i] ∧ ∀ (a : Addr) (u : HO), H a = none → WellO u 0 → Q (.ref a) (upd H a u)
theorem ok__law_well {P : Program} {w : World} {K : PySem.W.Frag} {mg : Str → Option Value} {base : Heap} {fd : FuncData} (T : Txt K mg w) (F : FnP K "_law_well" s__law_well [] fd) : FnOk P w K mg base CX0 1 (He.ga K "_law_well") fd ps__law_well (sp__law_well K) := by
  refine F.ok sc__law_well (fun vs H Q E h => ?len) (fun cdv A outer s H vs Q E hr h => ?body)
  case len => obtain ⟨i, rfl, k⟩ := h; rfl
  case body =>
  obtain ⟨i, rfl, k⟩ := h
  have hu := hu_of hr
  refine ⟨_, PSs.nox (pss_one (ps_ret (pe_lst (pa_cons (pe_op op_mul (pv 0) (pe_callTy call_int1 (by rfl) T.n_int (by decide +kernel) (pa_cons (pe_cmpR op_ge (pv 0) (pe_op op_pow pe_int pe_int) (nomark _)) pa_nil))) (pa_cons (pv 0) (pa_cons pe_int pa_nil)))))), ?_⟩
  refine ⟨_, rfl, _, rfl, _, _, rfl, rfl, ⟨by decide, by decide, by decide⟩, _, _, rfl, rfl, .inr ⟨_, rfl, _, _, rfl, rfl, .inr ?_, _, rfl, smallN (by show 3 ≤ 1000; decide), fun p hp => k p _ hp ⟨_, _, rfl⟩⟩⟩
  split <;> constructor <;> decide
/-- a number from 0 to m - 1; the source goes on -/
def sp__law_draw (K : PySem.W.Frag) : Sp := fun vs H Q _ => ∃ (a : Addr) (n : Nat) (m : Int), vs = [.ref a, .int m] ∧ WellAt H a n ∧ n < 1000000 ∧ 0 < m ∧ m ≤ 1000000000 ∧
  ∀ (r : Int) (u : HO) (n' : Nat), 0 ≤ r → r < m → n' ≤ n + 1 → WellO u n' → Q (.int r) (upd H a u)
theorem natAbs_lt64 {z : Int} (h1 : -(2 ^ 40) < z) (h2 : z < 2 ^ 40) : z.natAbs < 2 ^ 64 := by omega
theorem mod_lt' (z : Int) {m : Int} (h : 0 < m) : 0 ≤ z % m ∧ z % m < m := ⟨Int.emod_nonneg _ (by omega), Int.emod_lt_of_pos _ h⟩
theorem wdiv {i j : Int} (h : 0 < j) (h2 : j ≤ 2 ^ 32) : CDivW i j := wide_div (b := 40) h (by omega) (by decide) (by decide)
theorem ok__law_draw {P : Program} {w : World} {K : PySem.W.Frag} {mg : Str → Option Value} {base : Heap} {fd : FuncData} (T : Txt K mg w) (F : FnP K "_law_draw" s__law_draw [] fd) : FnOk P w K mg base CX0 1 (He.ga K "_law_draw") fd ps__law_draw (sp__law_draw K) := by
  refine F.ok sc__law_draw (fun vs H Q E h => ?len) (fun cdv A outer s H vs Q E hr h => ?body)
  case len => obtain ⟨a, n, m, rfl, ⟨u, hu0, x, y, rfl⟩, hn, hm, hm2, k⟩ := h; rfl
  case body =>
  obtain ⟨a, n, m, rfl, ⟨u, hu0, x, y, rfl⟩, hn, hm, hm2, k⟩ := h
  have hu := hu_of hr
  refine ⟨_, PSs.nox (pss_cons (ps_if (pt_cmpR op_gt (pe_ix ix_list (pv 0) pe_int (fun _ _ => rfl)) pe_int (nomark _)) (pss_cons (ps_set (i := 2) sc__law_draw.nd rfl (Or.inl rfl) (pe_op op_mod (pe_callTy call_int1 (by rfl) T.n_int (by decide +kernel) (pa_cons (pe_ix ix_list (pv 0) pe_int (fun _ _ => rfl)) pa_nil)) (pv 1)))
      (pss_cons (ps_asg (pe_op op_fdivW (pe_ix ix_list (pv 0) pe_int (fun _ _ => rfl)) (pv 1)) (pg_sub (pv 0) pe_int set_list))
      (pss_one (ps_ret (pv 2))))) pss_nil)
    (pss_cons (ps_asg (pe_op op_add (pe_ix ix_list (pv 0) pe_int (fun _ _ => rfl)) pe_int) (pg_sub (pv 0) pe_int set_list))
    (pss_cons (ps_set (i := 3) sc__law_draw.nd rfl (Or.inl rfl) (pe_op op_mod (pe_callTy call_int1 (by rfl) T.n_int (by decide +kernel) (pa_cons (pe_op op_fdivW (pe_ix ix_list (pv 0) pe_int (fun _ _ => rfl)) pe_int) pa_nil)) pe_int))
    (pss_cons (ps_set (i := 4) sc__law_draw.nd rfl (Or.inl rfl) (pe_op op_add (pe_op op_add (pe_op op_add (pe_op op_mod (pe_callTy call_int1 (by rfl) T.n_int (by decide +kernel) (pa_cons (pe_ix ix_list (pv 0) pe_int (fun _ _ => rfl)) pa_nil)) pe_int) (pe_op op_mul pe_int (pe_ix ix_list (pv 0) pe_int (fun _ _ => rfl)))) (pv 3)) pe_int))
    (pss_cons (ps_set (i := 5) sc__law_draw.nd rfl (Or.inl rfl) (pe_op op_mod (pe_callTy call_int1 (by rfl) T.n_int (by decide +kernel) (pa_cons (pe_op op_pow (pv 4) pe_int) pa_nil)) pe_int))
    (pss_cons (ps_set (i := 5) sc__law_draw.nd rfl (Or.inl rfl) (pe_op op_mod (pe_callTy call_int1 (by rfl) T.n_int (by decide +kernel) (pa_cons (pe_op op_mul (pv 5) (pe_op op_add (pe_op op_add (pe_op op_fdivW (pv 5) pe_int) pe_int) (pe_ix ix_list (pv 0) pe_int (fun _ _ => rfl)))) pa_nil)) pe_int))
    (pss_one (ps_ret (pe_op op_mod (pe_callTy call_int1 (by rfl) T.n_int (by decide +kernel) (pa_cons (pe_op op_mod (pe_callTy call_int1 (by rfl) T.n_int (by decide +kernel) (pa_cons (pe_op op_mul (pv 5) (pe_op op_add (pe_op op_fdivW (pv 5) pe_int) pe_int)) pa_nil)) pe_int) pa_nil)) (pv 1)))))))))), ?_⟩
  have hS : SqL K H a [.int x, .int y, .int (n : Int)] := SqL.of hu0
  refine ⟨_, rfl, a, _, 0, _, rfl, rfl, hS, rfl, _, _, rfl, rfl, _, rfl, ?_⟩
  refine ite2 (fun hx => ?_) (fun hx => ?_)
  · refine ⟨_, rfl, a, _, 0, _, rfl, rfl, hS, rfl, .inl ⟨_, rfl, _, rfl, _, _, rfl, rfl, hm, ?_⟩⟩
    refine ⟨_, rfl, a, _, 0, _, rfl, rfl, hS, rfl, _, rfl, _, _, rfl, rfl, wdiv hm (by omega), _, rfl, a, _, _, 0, rfl, rfl, hu0, rfl, _, rfl, ?_⟩
    exact k _ _ n (mod_lt' x hm).1 (mod_lt' x hm).2 (Nat.le_succ _) ⟨_, _, rfl⟩
  · refine ⟨_, rfl, a, _, 2, _, rfl, rfl, hS, rfl, _, _, rfl, rfl, _, rfl, a, _, _, 2, rfl, rfl, hu0, rfl, ?_⟩
    have hu1 : upd H a (.lst ([.int x, .int y, .int (n : Int)].set 2 (.int ((n : Int) + 1)))) a = some (.lst [.int x, .int y, .int ((n : Int) + 1)]) := upd_same
    have hS1 : SqL K (upd H a (.lst ([.int x, .int y, .int (n : Int)].set 2 (.int ((n : Int) + 1))))) a [.int x, .int y, .int ((n : Int) + 1)] := SqL.of hu1
    refine ⟨_, rfl, a, _, 1, _, rfl, rfl, hS1, rfl, _, _, rfl, rfl, wdiv (by decide) (by decide), .inl ⟨_, rfl, _, _, rfl, rfl, (by show (0 : Int) < 65521; decide), ?_⟩⟩
    refine ⟨_, rfl, a, _, 1, _, rfl, rfl, hS1, rfl, .inl ⟨_, rfl, _, _, rfl, rfl, (by show (0 : Int) < 2147483629; decide), ?_⟩⟩
    have b1 := mod_lt' y (m := 2147483629) (by decide)
    have b2 := mod_lt' (y / 2147483629) (m := 65521) (by decide)
    generalize y % 2147483629 = e1 at b1 ⊢
    generalize y / 2147483629 % 65521 = e2 at b2 ⊢
    refine ⟨_, rfl, a, _, 2, _, rfl, rfl, hS1, rfl, _, _, rfl, rfl, .inl ⟨by decide, by decide⟩, _, _, rfl, rfl, _, rfl, _, _, rfl, rfl, _, _, rfl, rfl, ?_⟩
    refine ⟨_, rfl, _, _, rfl, rfl, ⟨by decide, by decide, natAbs_lt64 (by omega) (by omega)⟩, .inl ⟨_, rfl, _, _, rfl, rfl, (by show (0 : Int) < 2147483647; decide), ?_⟩⟩
    have b3 := mod_lt' ((e1 + 7919 * ((n : Int) + 1) + e2 + 1) ^ (5 : Int).toNat) (m := 2147483647) (by decide)
    generalize (e1 + 7919 * ((n : Int) + 1) + e2 + 1) ^ (5 : Int).toNat % 2147483647 = e3 at b3 ⊢
    refine ⟨_, rfl, _, rfl, _, _, rfl, rfl, wdiv (by decide) (by decide), _, _, rfl, rfl, _, rfl, a, _, 2, _, rfl, rfl, hS1, rfl, _, _, rfl, rfl, _, _, rfl, rfl, .inl ⟨by omega, by omega⟩, .inl ⟨_, rfl, _, _, rfl, rfl, (by show (0 : Int) < 2147483629; decide), ?_⟩⟩
    have b4 := mod_lt' (e3 * (e3 / 1009 + 69621 + ((n : Int) + 1))) (m := 2147483629) (by decide)
    generalize e3 * (e3 / 1009 + 69621 + ((n : Int) + 1)) % 2147483629 = e4 at b4 ⊢
    refine ⟨_, rfl, _, rfl, _, _, rfl, rfl, wdiv (by decide) (by decide), _, _, rfl, rfl, _, _, rfl, rfl, .inl ⟨by omega, by omega⟩, .inl ⟨_, rfl, _, _, rfl, rfl, (by show (0 : Int) < 2147483399; decide), .inl ⟨_, rfl, _, rfl, _, _, rfl, rfl, hm, ?_⟩⟩⟩
    exact k _ _ (n + 1) (mod_lt' _ hm).1 (mod_lt' _ hm).2 (Nat.le_refl _) ⟨_, _, rfl⟩

/-! ### one of some values -/
theorem well_ne {H : Hp} {a b : Addr} {n : Nat} {o : HO} (h : WellAt H a n) (hb : H b = some o) (ho : ∀ xs, o = .lst xs → xs.length ≠ 3) : b ≠ a := by
  obtain ⟨u, hu, x, y, rfl⟩ := h
  exact ne_of hb hu fun z => ho _ z rfl
theorem well_ne3 {H : Hp} {a p : Addr} {n : Nat} (h : WellAt H a n) (hp : H p = none) : p ≠ a := by
  obtain ⟨u, hu, _⟩ := h
  exact fun z => by rw [z, hu] at hp; cases hp
theorem well_upd {H : Hp} {a : Addr} {n : Nat} {u : HO} (h : WellO u n) : WellAt (upd H a u) a n := ⟨u, upd_same, h⟩
theorem well_new {H : Hp} {a p : Addr} {n : Nat} {u : HO} (h : WellAt H a n) (hp : H p = none) : WellAt (upd H p u) a n := by
  obtain ⟨v, hv, w⟩ := h
  exact ⟨v, by rw [upd_ne (ne_of_none hv hp)]; exact hv, w⟩
def sp__law_one (K : PySem.W.Frag) : Sp := fun vs H Q _ => ∃ (a b : Addr) (n : Nat) (ys : List V), vs = [.ref a, .ref b] ∧ WellAt H a n ∧ n < 1000000 ∧ H b = some (.lst ys) ∧ b ≠ a ∧ 0 < ys.length ∧ ys.length ≤ 1000 ∧
  ∀ (y : V) (u : HO) (n' : Nat), y ∈ ys → n' ≤ n + 1 → WellO u n' → Q y (upd H a u)
theorem ok__law_one {P : Program} {w : World} {K : PySem.W.Frag} {mg : Str → Option Value} {base : Heap} {fd : FuncData} (T : Txt K mg w) (F : FnP K "_law_one" s__law_one [] fd) : FnOk P w K mg base CX0 2 (He.ga K "_law_one") fd ps__law_one (sp__law_one K) := by
  obtain ⟨fd__law_draw, F__law_draw⟩ := T.d__law_draw
  have G__law_draw := ok__law_draw (P := P) (w := w) (base := base) T F__law_draw
  have k__law_draw := F__law_draw.kp
  have b__law_draw := bi__law_draw F__law_draw
  refine F.ok sc__law_one (fun vs H Q E h => ?len) (fun cdv A outer s H vs Q E hr h => ?body)
  case len => obtain ⟨a, b, n, ys, rfl, hw, hn, hb, hne, h0, h1, k⟩ := h; rfl
  case body =>
  obtain ⟨a, b, n, ys, rfl, hw, hn, hb, hne, h0, h1, k⟩ := h
  have hu := hu_of hr
  refine ⟨_, PSs.nox (pss_one (ps_ret (pe_ix ix_list (pv 1) (pe_call G__law_draw (hr.mono (by first | decide | omega)) rfl T.g__law_draw k__law_draw b__law_draw .nil pass0 (pa_cons (pv 0) (pa_cons (pe_callB call_len_seq (by rfl) T.n_len (by decide +kernel) (pa_cons (pv 1) pa_nil)) pa_nil))) (fun _ _ => rfl)))), ?_⟩
  refine ⟨_, rfl, _, rfl, _, rfl, b, ys, rfl, .inl (SqL.of hb), a, n, _, rfl, hw, hn, (by omega), (by omega), fun r u n' r0 r1 hn' hu' => ?_⟩
  have hb' : upd H a u b = some (.lst ys) := by rw [upd_ne hne]; exact hb
  obtain ⟨j, rfl⟩ := Int.eq_ofNat_of_zero_le r0
  have hj : j < ys.length := by omega
  have e : ys[j]? = some ys[j] := List.getElem?_eq_getElem hj
  exact ⟨b, ys, _, ys[j], rfl, rfl, SqL.of hb', atI_nat e, k _ u n' (List.getElem_mem hj) hn' hu'⟩

/-! ### x.rsplit(sep, k) -/
/-- how many pieces there can be -/
theorem rsplit_few (a b : Str) (k : Int) (room : a.length + 2 ≤ sizeLine) : (Builtin.Str.partsBetween a (Builtin.Str.occurrencesFromRight a b (limitOf a k)) b.length).length ≤ sizeLine ∧ (PySem.Txt.rsplitMax a b k).length ≤ sizeLine := by
  have most : (Builtin.Str.partsBetween a (Builtin.Str.occurrencesFromRight a b (limitOf a k)) b.length).length ≤ sizeLine := by have := StrLaws.occR_length_le_len a b (limitOf a k); rw [length_partsBetween]; omega
  have one : ∀ z : Str, [z].length ≤ sizeLine := fun _ => smallN (by show 1 ≤ 1000; decide)
  refine ⟨most, ?_⟩
  unfold PySem.Txt.rsplitMax
  repeat' split
  all_goals first | exact one _ | exact most
theorem mt_rsplitMax {X : Cx} : MtR X "str.rsplit" (fun x xs H Q => ∃ (a b : Str) (k : Int), x = .str a ∧ xs = [.str b, .int k] ∧ (b.length == 0) = false ∧ -(2 ^ 63) ≤ k ∧ k < 2 ^ 63 ∧ a.length + 2 ≤ sizeLine ∧ rNewStrs (PySem.Txt.rsplitMax a b k) H Q) := fun pins s σ H x xs v us Q I rx rs ⟨a, b, k, ex, exs, full, low, high, room, want⟩ => by
  subst ex exs
  obtain ⟨t, rfl⟩ := rx
  obtain ⟨_, rest1, rfl, ⟨u, rfl⟩, rs2⟩ : ∃ u1 r, us = u1 :: r ∧ RelV (.str b) u1 ∧ Vals [.int k] r := by cases rs with | cons r1 r2 => exact ⟨_, _, rfl, r1, r2⟩
  obtain ⟨_, rfl, ⟨n, rfl⟩⟩ := vals1 rs2
  have fits : (decide (k < -(2 ^ 63 : Int)) || decide (k ≥ 2 ^ 63)) = false := Bool.or_eq_false_iff.mpr ⟨decide_eq_false (by omega), decide_eq_false (by omega)⟩
  have ⟨few, fewR⟩ := rsplit_few a b k room
  -- the call goes by one of three roads; in each the pieces laid are those of rsplitMax
  cases c1 : (decide (a.length < b.length) || decide (Builtin.Str.strKind a < Builtin.Str.strKind b)) with
  | true => exact call_meets PySem.F.slot_str_rsplit (typeIs_str _ _ _) PySem.F.entry_str_rsplit (PySem.F.args_str_rsplit_3 _ _ _) (meets_str_rsplit_max_cannot_occur a b k t u n fits c1) (laid_strs (l := [(a, t)]) (k := s.toks) I (if_pos c1).symm fewR want)
  | false =>
    have no1 := ne_true_of_eq_false c1
    cases c2 : (Builtin.Str.occurrencesFromRight a b (limitOf a k)).isEmpty with
    | true => exact call_meets PySem.F.slot_str_rsplit (typeIs_str _ _ _) PySem.F.entry_str_rsplit (PySem.F.args_str_rsplit_3 _ _ _) (meets_str_rsplit_max_not_found a b k t u n fits c1 full c2) (laid_strs (l := [(a, t)]) (k := s.toks) I ((if_neg no1).trans (if_pos c2)).symm fewR want)
    | false =>
      refine call_meets PySem.F.slot_str_rsplit (typeIs_str _ _ _) PySem.F.entry_str_rsplit (PySem.F.args_str_rsplit_3 _ _ _) (meets_str_rsplit_sep_max a b k t u n fits c1 full c2 (by omega) few) ?_
      rw [strsFrom_eq]
      exact laid_strs I ((numbered_texts _ _).trans ((if_neg no1).trans (if_neg (ne_true_of_eq_false c2))).symm) fewR want
/-! what it gives for one dash -/
theorem occR_full (s sub : Str) : ∀ (l : List Nat) (st : Array Nat × Nat), ¬ st.fst.size < 1 → (forIn l st (StrLaws.occRBody s sub 1)).run = st
  | [], st, h => rfl
  | a :: l, st, h => by
    rw [List.forIn_cons]
    unfold StrLaws.occRBody
    rw [if_neg (fun z => h z.1.1)]
    exact occR_full s sub l st h
theorem occR_one (s sub : Str) (hs : sub.length = 1) {j : Nat} (hj : j ≤ s.length) (at_ : j < s.length ∧ Builtin.Str.subAt s sub j = true) (no : ∀ i, j < i → i < s.length → Builtin.Str.subAt s sub i = false) :
    ∀ (n k : Nat), s.length - k - j + 1 ≤ n → s.length - k ≥ j → k ≤ s.length → (forIn (List.range' k n) ((#[], s.length) : Array Nat × Nat) (StrLaws.occRBody s sub 1)).run = (#[j], j)
  | 0, k, h, h2, h3 => by omega
  | n + 1, k, h, h2, h3 => by
    rw [List.range'_succ, List.forIn_cons]
    unfold StrLaws.occRBody
    by_cases e : s.length - k = j
    · rw [e, if_pos ⟨⟨by show 0 < 1; decide, by show j + sub.length ≤ s.length; omega⟩, at_.2⟩]
      exact occR_full s sub _ _ (by simp)
    · rw [if_neg]
      · exact occR_one s sub hs hj at_ no n (k + 1) (by omega) (by omega) (by omega)
      · rintro ⟨⟨_, q⟩, z⟩
        rw [no _ (by omega) (by omega)] at z
        cases z

/-! ### names -/
def Vl (H : Hp) (x : V) : Prop := flat x ∨ ∃ a, x = .ref a ∧ ((∃ xs, H a = some (.lst xs)) ∨ (∃ xs, H a = some (.tup xs)) ∨ ∃ kvs, H a = some (.dK kvs))
def isI : V → Bool
  | .int _ => true
  | _ => false
def isS : V → Bool
  | .str _ => true
  | _ => false
theorem vl_ty {K : PySem.W.Frag} {H : Hp} {x : V} (h : Vl H x) (c : String) (f : V → Bool) (h1 : kitB "NoneType" c = some (f .non)) (h2 : ∀ b, kitB "bool" c = some (f (.bl b))) (h3 : ∀ i, kitB "int" c = some (f (.int i))) (h4 : ∀ z, kitB "str" c = some (f (.str z)))
    (h5 : ∀ a, kitB "list" c = some (f (.ref a))) (h6 : ∀ a, kitB "tuple" c = some (f (.ref a))) (h7 : ∀ a, kitB "dict" c = some (f (.ref a))) : ∃ u, TyX K H x u ∧ PySem.W.kitOne K u (.type c) = some (f x) := by
  rcases h with hf | ⟨a, rfl, ⟨xs, g⟩ | ⟨xs, g⟩ | ⟨xs, g⟩⟩
  · cases x with
    | non => exact ⟨_, .base .non, kit_ty h1⟩
    | bl b => exact ⟨_, .base (.bl b), kit_ty (h2 b)⟩
    | int i => exact ⟨_, .base (.int i), kit_ty (h3 i)⟩
    | str z => exact ⟨_, .base (.str z), kit_ty (h4 z)⟩
    | byt _ => exact hf.elim
    | flt _ => exact hf.elim
    | ref _ => exact hf.elim
    | ty _ => exact hf.elim
  · exact ⟨_, .base (.lst g), kit_ty (h5 a)⟩
  · exact ⟨_, .base (.tup g), kit_ty (h6 a)⟩
  · exact ⟨_, .base (.dK g), kit_ty (h7 a)⟩
theorem vl_str {K : PySem.W.Frag} {H : Hp} {x : V} (h : Vl H x) : ∃ u, TyX K H x u ∧ PySem.W.kitOne K u (.type "str") = some (isS x) :=
  vl_ty h "str" isS (by decide +kernel) (fun _ => by show _ = some false; decide +kernel) (fun _ => by show _ = some false; decide +kernel) (fun _ => by show _ = some true; decide +kernel) (fun _ => by show _ = some false; decide +kernel) (fun _ => by show _ = some false; decide +kernel) (fun _ => by show _ = some false; decide +kernel)
def isIB : V → Bool
  | .int _ => true
  | .bl _ => true
  | _ => false
def isBl : V → Bool
  | .bl _ => true
  | _ => false
theorem vl_int {K : PySem.W.Frag} {H : Hp} {x : V} (h : Vl H x) : ∃ u, TyX K H x u ∧ PySem.W.kitOne K u (.type "int") = some (isIB x) :=
  vl_ty h "int" isIB (by decide +kernel) (fun _ => by show _ = some true; decide +kernel) (fun _ => by show _ = some true; decide +kernel) (fun _ => by show _ = some false; decide +kernel) (fun _ => by show _ = some false; decide +kernel) (fun _ => by show _ = some false; decide +kernel) (fun _ => by show _ = some false; decide +kernel)
theorem vl_bool {K : PySem.W.Frag} {H : Hp} {x : V} (h : Vl H x) : ∃ u, TyX K H x u ∧ PySem.W.kitOne K u (.type "bool") = some (isBl x) :=
  vl_ty h "bool" isBl (by decide +kernel) (fun _ => by show _ = some true; decide +kernel) (fun _ => by show _ = some false; decide +kernel) (fun _ => by show _ = some false; decide +kernel) (fun _ => by show _ = some false; decide +kernel) (fun _ => by show _ = some false; decide +kernel) (fun _ => by show _ = some false; decide +kernel)
def sp_is_integer (K : PySem.W.Frag) : Sp := fun vs H Q _ => ∃ (x : V), vs = [x] ∧ Vl H x ∧ Q (.bl (isI x)) H
theorem ok_is_integer {P : Program} {w : World} {K : PySem.W.Frag} {mg : Str → Option Value} {base : Heap} {fd : FuncData} (T : Txt K mg w) (F : FnP K "is_integer" s_is_integer [] fd) : FnOk P w K mg base CX0 1 (He.ga K "is_integer") fd ps_is_integer (sp_is_integer K) := by
  refine F.ok sc_is_integer (fun vs H Q E h => ?len) (fun cdv A outer s H vs Q E hr h => ?body)
  case len => obtain ⟨x, rfl, hf, k⟩ := h; rfl
  case body =>
  obtain ⟨x, rfl, hf, k⟩ := h
  have hu := hu_of hr
  refine ⟨_, PSs.nox (pss_one (ps_ret (pe_and (pe_callB call_isi (by rfl) T.n_isinstance (by decide +kernel) (pa_cons (pv 0) (pa_cons (pe_bltn (v := .ty "int") rfl T.n_int (by decide +kernel) rfl) pa_nil))) (pe_one (pe_not (pe_callB call_isi (by rfl) T.n_isinstance (by decide +kernel) (pa_cons (pv 0) (pa_cons (pe_bltn (v := .ty "bool") rfl T.n_bool (by decide +kernel) rfl) pa_nil)))))))), ?_⟩
  obtain ⟨u, h1, h2⟩ := vl_int (K := K) hf
  obtain ⟨u', h3, h4⟩ := vl_bool (K := K) hf
  refine ⟨_, rfl, _, .ty "int", _, _, _, rfl, .ty "int", h1, h2, _, rfl, ?_⟩
  cases x with
  | int i => exact iteT ⟨_, rfl, _, .ty "bool", _, _, _, rfl, .ty "bool", h3, h4, _, rfl, k⟩
  | bl b => exact iteT ⟨_, rfl, _, .ty "bool", _, _, _, rfl, .ty "bool", h3, h4, _, rfl, k⟩
  | non => exact iteF k
  | str _ => exact iteF k
  | byt _ => exact iteF k
  | flt _ => exact iteF k
  | ref _ => exact iteF k
  | ty _ => exact iteF k
def tl (z : Str) : List Nat := z.cps.toList
def smallT : Str := "abcdefghijklmnopqrstuvwxyz"
def digitT : Str := "0123456789"
def inSm (c : Nat) : Bool := decide (c ∈ tl smallT)
def inSD (c : Nat) : Bool := decide (c ∈ tl (smallT ++ digitT))
def inDg (c : Nat) : Bool := decide (c ∈ tl digitT)
def firstSm : List Nat → Bool
  | c :: _ => inSm c
  | [] => false
/-- a user name -/
def userL (l : List Nat) : Bool := decide (1 ≤ l.length ∧ l.length ≤ 10) && (firstSm l && l.all inSD)
def userB (z : Str) : Bool := userL (tl z)
def userV : V → Bool
  | .str z => userB z
  | _ => false
theorem len_tl (z : Str) : z.length = (tl z).length := by
  unfold tl; rw [Array.length_toList]; rfl
theorem small5 {n : Nat} (h : n ≤ 100000) : n ≤ sizeLine := by rw [sizeLine_eq]; omega
theorem small5' {n : Nat} (h : n ≤ 100000) : n < sizeLine := by rw [sizeLine_eq]; omega
theorem take_at {z : Str} {i : Nat} {c : Nat} (h : z.cps[i]? = some c) : (tl z)[i]? = some c := by
  unfold tl; rw [Array.getElem?_toList]; exact h
theorem size_tl (z : Str) : z.cps.size = (tl z).length := by unfold tl; rw [Array.length_toList]
/-- a text is not too long -/
def Shrt (x : V) : Prop := ∀ z, x = .str z → z.length ≤ 100000
def sp_is_user_name (K : PySem.W.Frag) : Sp := fun vs H Q _ => ∃ (x : V), vs = [x] ∧ Vl H x ∧ Shrt x ∧ ∀ H', Same H H' → Q (.bl (userV x)) H'
theorem ok_is_user_name {P : Program} {w : World} {K : PySem.W.Frag} {mg : Str → Option Value} {base : Heap} {fd : FuncData} (T : Txt K mg w) (F : FnP K "is_user_name" s_is_user_name [] fd) : FnOk P w K mg base CX0 1 (He.ga K "is_user_name") fd ps_is_user_name (sp_is_user_name K) := by
  obtain ⟨t_SMALL, h_SMALL⟩ := T.c_SMALL
  obtain ⟨t_DIGITS, h_DIGITS⟩ := T.c_DIGITS
  obtain ⟨t_MOST_SIGNS, h_MOST_SIGNS⟩ := T.c_MOST_SIGNS
  refine F.ok sc_is_user_name (fun vs H Q E h => ?len) (fun cdv A outer s H vs Q E hr h => ?body)
  case len => obtain ⟨x, rfl, hv, hz, k⟩ := h; rfl
  case body =>
  obtain ⟨x, rfl, hv, hz, k⟩ := h
  have hu := hu_of hr
  refine ⟨_, PSs.nox (pss_cons (ps_if (PW.pt (pw_or (pt_not (pt_val (pe_callB call_isi (by rfl) T.n_isinstance (by decide +kernel) (pa_cons (pv 0) (pa_cons (pe_bltn (v := .ty "str") rfl T.n_str (by decide +kernel) rfl) pa_nil))))) (pw_or (pt_not (pt_chain op_le op_le pe_int (pe_callB call_len_str (by rfl) T.n_len (by decide +kernel) (pa_cons (pv 0) pa_nil)) (pe_glob (v := .int 10) rfl h_MOST_SIGNS ⟨_, rfl⟩))) (pw_or1 (pt_cmpR op_notIn_sign (pe_ix ix_str (pv 0) pe_int (fun _ _ => rfl)) (pe_glob (v := .str "abcdefghijklmnopqrstuvwxyz") rfl h_SMALL ⟨_, rfl⟩) (by rfl)))))) (pss_one (ps_ret pe_bl)) pss_nil)
    (pss_one (ps_ret (pe_callB (cr_all rfl) (by rfl) T.n_all (by decide +kernel) (pa_cons (pe_lc (own := [("sign", 1)]) rfl sc_is_user_name.nd (pi_str (pv 0)) (blkOk_by (own := [("sign", 1)]) (N := N_is_user_name) (sc := defScope s_is_user_name) (by decide +kernel)) (fun _ _ _ _ _ => (pg_name (i := 1) sc_is_user_name.nd rfl (Or.inl rfl))) (fun _ _ _ _ _ => pts_nil) (fun _ _ _ _ _ => (pe_cmpR op_in_sign (pv 1) (pe_op op_add_str (pe_glob (v := .str "abcdefghijklmnopqrstuvwxyz") rfl h_SMALL ⟨_, rfl⟩) (pe_glob (v := .str "0123456789") rfl h_DIGITS ⟨_, rfl⟩)) (by rfl)))) pa_nil))))), ?_⟩
  obtain ⟨u, h1, h2⟩ := vl_str (K := K) hv
  have other : isS x = false → userV x = false := fun e => by cases x <;> first | rfl | cases e
  by_cases hs : isS x = false
  · refine ⟨_, rfl, x, .ty "str", _, _, _, rfl, .ty "str", h1, h2, _, rfl, ?_⟩
    rw [hs]
    have q := k H (Same.refl H)
    rw [other hs] at q
    exact iteT (iteT q)
  obtain ⟨z, rfl⟩ : ∃ z, x = .str z := by cases x <;> first | exact ⟨_, rfl⟩ | exact absurd rfl hs
  replace k : ∀ H', Same H H' → Q (.bl (userB z)) H' := k
  replace hz := hz z rfl
  have bad : userB z = false → Q (.bl false) H := fun e => by have := k H (Same.refl H); rw [e] at this; exact this
  refine ⟨_, rfl, .str z, .ty "str", _, _, _, rfl, .ty "str", h1, h2, _, rfl, ?_⟩
  refine iteF ⟨_, rfl, z, rfl, small5 hz, _, _, rfl, rfl, _, rfl, ?_⟩
  by_cases h1 : (1 : Int) ≤ (z.length : Int)
  · rw [decide_eq_true h1]
    refine iteT ⟨_, _, rfl, rfl, _, rfl, ?_⟩
    by_cases h2 : (z.length : Int) ≤ 10
    · rw [decide_eq_true h2]
      refine iteF ?_
      obtain ⟨c, cs, ec⟩ : ∃ c cs, tl z = c :: cs := by
        cases e : tl z with
        | nil => rw [len_tl, e] at h1; exact absurd h1 (by decide)
        | cons c cs => exact ⟨c, cs, rfl⟩
      have e0 : (tl z)[0]? = some c := by rw [ec]; rfl
      refine ⟨_, rfl, z, 0, c, rfl, rfl, small5 hz, atI_nat (j := 0) e0, ⟨_, _, rfl, rfl, _, rfl, ?_⟩⟩
      by_cases hc : c ∈ tl smallT
      · have hc2 : decide (c ∈ (Str.ofString "abcdefghijklmnopqrstuvwxyz").cps.toList) = true := decide_eq_true hc
        rw [hc2]
        refine iteF ?_
        refine ⟨_, rfl, z, rfl, fun D hD => ?_⟩
        refine lc_it walk_str (fun i H' => Same H H' ∧ H' D = some (.lst (((tl z).take i).map fun c => V.bl (inSD c)))) ⟨Same.new hD, upd_same⟩ (fun _ _ _ _ => True.intro) ?_ ?_
        · rintro i x H1 H2 hi ⟨sm, gD⟩ ⟨rfl, c', hc', rfl⟩
          refine ⟨rfl, yes_ ?_⟩
          refine iteT ?_
          refine ⟨_, rfl, _, _, rfl, rfl, (by decide), _, _, rfl, rfl, ?_⟩
          refine ⟨_, gD, small5' (by rw [List.length_map, List.length_take]; rw [len_tl] at hz; omega), fun b o hb => ?_, ?_⟩
          · rw [upd_ne (ne_of_none hb hD)]; exact sm b o hb
          · rw [upd_same, get_take (take_at hc'), List.map_append]; rfl
        · rintro H' ⟨sm, gD⟩
          rw [size_tl, List.take_length] at gD
          have gD2 : H' D = some (.lst (((tl z).map inSD).map V.bl)) := by rw [gD, List.map_map]; rfl
          refine ⟨D, (tl z).map inSD, rfl, SqL.of gD2, ?_⟩
          have := k H' sm
          have e : userB z = ((tl z).map inSD).all id := by
            unfold userB userL
            rw [decide_eq_true (show 1 ≤ (tl z).length ∧ (tl z).length ≤ 10 by rw [← len_tl]; omega)]
            have : firstSm (tl z) = true := by rw [ec]; exact decide_eq_true hc
            rw [this]
            simp [List.all_map]
          rw [e] at this
          exact this
      · have hc2 : decide (c ∈ (Str.ofString "abcdefghijklmnopqrstuvwxyz").cps.toList) = false := decide_eq_false hc
        rw [hc2]
        refine iteT (bad ?_)
        unfold userB userL
        have : firstSm (tl z) = false := by rw [ec]; exact decide_eq_false hc
        rw [this]; simp
    · rw [decide_eq_false h2]
      refine iteT (iteT (bad ?_))
      unfold userB userL
      rw [decide_eq_false (show ¬ (1 ≤ (tl z).length ∧ (tl z).length ≤ 10) by rw [← len_tl]; omega)]; rfl
  · rw [decide_eq_false h1]
    refine iteF ⟨_, rfl, iteT (iteT (bad ?_))⟩
    unfold userB userL
    rw [decide_eq_false (show ¬ (1 ≤ (tl z).length ∧ (tl z).length ≤ 10) by rw [← len_tl]; omega)]; rfl

theorem kdct_of {K : PySem.W.Frag} {w : World} {a : Addr} {kvs : List (Str × He.Dv)} (h : ∃ es n, KDict K w a es n) (hv : He.valsB K a kvs = true) {q : Str × He.Dv} (hq : q ∈ kvs) : KDct K w a q.1 (q.2.v K) := by
  obtain ⟨es, n, hl, hk, _⟩ := h
  obtain ⟨u, e, r⟩ := He.valsB_ok hv hq
  exact ⟨es, n, u, hl, hk, e, r⟩

/-! ### numbers -/
theorem S_tl (z : Str) : SX.S (tl z) = z := by
  obtain ⟨a⟩ := z
  show (⟨a.toList.toArray⟩ : Str) = _
  rw [Array.toArray_toList]
theorem tl_S (l : List Nat) : tl (SX.S l) = l := rfl
def numF (l : List Nat) (w : Nat) : Option Nat := if (1 ≤ l.length ∧ l.length ≤ w) ∧ l.all inDg = true then (if TL.numL (NumText.digitsVal l) = l then some (NumText.digitsVal l) else none) else none
def oInt : Option Nat → V
  | some n => .int (n : Int)
  | none => .non
theorem dg_all {l : List Nat} (h : l.all inDg = true) : NumText.AllDigits l := fun c hc => by
  have h1 := of_decide_eq_true (List.all_eq_true.mp h c hc)
  have e : tl digitT = [48, 49, 50, 51, 52, 53, 54, 55, 56, 57] := by decide +kernel
  rw [e] at h1
  simp only [List.mem_cons, List.not_mem_nil, or_false] at h1
  omega
theorem dv_lt : ∀ (l : List Nat) (acc : Nat), NumText.AllDigits l → l.foldl (fun a c => a * 10 + (c - 48)) acc < (acc + 1) * 10 ^ l.length
  | [], acc, _ => by simp
  | c :: l, acc, h => by
    have q := dv_lt l (acc * 10 + (c - 48)) h.tail
    have hc := h.head
    have e : (acc + 1) * 10 ^ (c :: l).length = ((acc + 1) * 10) * 10 ^ l.length := by rw [List.length_cons, Nat.pow_succ, Nat.mul_assoc, Nat.mul_comm (10 ^ l.length)]
    rw [e]
    exact Nat.lt_of_lt_of_le q (Nat.mul_le_mul_right _ (by omega))
theorem dv_lt6 {l : List Nat} (h : NumText.AllDigits l) (hl : l.length ≤ 6) : NumText.digitsVal l < 1000000 := by
  have q := dv_lt l 0 h
  have e : (0 + 1) * 10 ^ l.length ≤ 10 ^ 6 := by rw [Nat.zero_add, Nat.one_mul]; exact Nat.pow_le_pow_right (by decide) hl
  exact Nat.lt_of_lt_of_le q e
theorem dv_log {l : List Nat} (h : NumText.AllDigits l) (hl : l.length ≤ 6) : ((NumText.digitsVal l : Nat) : Int).natAbs.log2 < 1920 := by
  have q := dv_lt6 h hl
  rw [Int.natAbs_natCast]
  by_cases z : NumText.digitsVal l = 0
  · rw [z]; decide
  · exact (Nat.log2_lt z).mpr (Nat.lt_trans q (by decide +kernel))
def sp_number_of (K : PySem.W.Frag) : Sp := fun vs H Q _ => ∃ (z : Str) (hi : Int) (w : Nat), vs = [.str z, .int hi] ∧ z.length ≤ 100000 ∧ (hi = 99 ∧ w = 2 ∨ hi = 999999 ∧ w = 6) ∧ ∀ H', Same H H' → Q (oInt (numF (tl z) w)) H'
theorem ok_number_of {P : Program} {w : World} {K : PySem.W.Frag} {mg : Str → Option Value} {base : Heap} {fd : FuncData} (T : Txt K mg w) (F : FnP K "number_of" s_number_of [] fd) : FnOk P w K mg base CX0 1 (He.ga K "number_of") fd ps_number_of (sp_number_of K) := by
  obtain ⟨t_DIGITS, h_DIGITS⟩ := T.c_DIGITS
  refine F.ok sc_number_of (fun vs H Q E h => ?len) (fun cdv A outer s H vs Q E hr h => ?body)
  case len => obtain ⟨z, hi, wd, rfl, hz, hw, k⟩ := h; rfl
  case body =>
  obtain ⟨z, hi, wd, rfl, hz, hw, k⟩ := h
  have hu := hu_of hr
  refine ⟨_, PSs.nox (pss_cons (ps_if (PW.pt (pw_or (pt_not (pt_chain op_le op_le pe_int (pe_callB call_len_str (by rfl) T.n_len (by decide +kernel) (pa_cons (pv 0) pa_nil)) (pe_callB call_len_str (by rfl) T.n_len (by decide +kernel) (pa_cons (pe_callTy call_str_int (by rfl) T.n_str (by decide +kernel) (pa_cons (pv 1) pa_nil)) pa_nil)))) (pw_or1 (pt_not (pt_val (pe_callB (cr_all rfl) (by rfl) T.n_all (by decide +kernel) (pa_cons (pe_lc (own := [("sign", 2)]) rfl sc_number_of.nd (pi_str (pv 0)) (blkOk_by (own := [("sign", 2)]) (N := N_number_of) (sc := defScope s_number_of) (by decide +kernel)) (fun _ _ _ _ _ => (pg_name (i := 2) sc_number_of.nd rfl (Or.inl rfl))) (fun _ _ _ _ _ => pts_nil) (fun _ _ _ _ _ => (pe_cmpR op_in_sign (pv 2) (pe_glob (v := .str "0123456789") rfl h_DIGITS ⟨_, rfl⟩) (by rfl)))) pa_nil))))))) (pss_one (ps_ret pe_non)) pss_nil)
    (pss_one (ps_ret (pe_ifExp (pt_cmpR op_eq (pe_callTy call_str_int (by rfl) T.n_str (by decide +kernel) (pa_cons (pe_callTy call_int_str (by rfl) T.n_int (by decide +kernel) (pa_cons (pv 0) pa_nil)) pa_nil)) (pv 0) (nomark _)) (pe_callTy call_int_str (by rfl) T.n_int (by decide +kernel) (pa_cons (pv 0) pa_nil)) pe_non)))), ?_⟩
  have w6 : wd ≤ 6 := by rcases hw with ⟨_, rfl⟩ | ⟨_, rfl⟩ <;> decide
  have hs : (Str.ofString (toString hi)).length = wd ∧ hi.natAbs.log2 < 1920 := by rcases hw with ⟨rfl, rfl⟩ | ⟨rfl, rfl⟩ <;> exact ⟨by decide +kernel, by decide +kernel⟩
  have bad : numF (tl z) wd = none → ∀ H', Same H H' → Q .non H' := fun e H' S => by have q := k H' S; rw [e] at q; exact q
  refine ⟨_, rfl, z, rfl, small5 hz, _, _, rfl, rfl, _, rfl, ?_⟩
  by_cases h1 : (1 : Int) ≤ (z.length : Int)
  rotate_left
  · rw [decide_eq_false h1]
    refine iteF ⟨_, rfl, iteT (iteT (bad ?_ H (Same.refl H)))⟩
    unfold numF
    rw [if_neg (fun q => h1 (by have := q.1.1; rw [← len_tl] at this; omega))]
  rw [decide_eq_true h1]
  refine iteT ⟨_, rfl, hi, rfl, hs.2, _, rfl, small5 (by rw [hs.1]; omega), _, _, rfl, rfl, _, rfl, ?_⟩
  rw [hs.1]
  by_cases h2 : (z.length : Int) ≤ (wd : Int)
  rotate_left
  · rw [decide_eq_false h2]
    refine iteT (iteT (bad ?_ H (Same.refl H)))
    unfold numF
    rw [if_neg (fun q => h2 (by have := q.1.2; rw [← len_tl] at this; omega))]
  rw [decide_eq_true h2]
  refine iteF ?_
  refine ⟨_, rfl, z, rfl, fun D hD => ?_⟩
  refine lc_it walk_str (fun i H' => Same H H' ∧ H' D = some (.lst (((tl z).take i).map fun c => V.bl (inDg c)))) ⟨Same.new hD, upd_same⟩ (fun _ _ _ _ => True.intro) ?_ ?_
  · rintro i x H1 H2 hi ⟨sm, gD⟩ ⟨rfl, c', hc', rfl⟩
    refine ⟨rfl, yes_ (iteT ?_)⟩
    refine ⟨_, rfl, _, _, rfl, rfl, ?_⟩
    refine ⟨_, gD, small5' (by rw [List.length_map, List.length_take]; rw [len_tl] at hz; omega), fun b o hb => ?_, ?_⟩
    · rw [upd_ne (ne_of_none hb hD)]; exact sm b o hb
    · rw [upd_same, get_take (take_at hc'), List.map_append]; rfl
  · rintro H' ⟨sm, gD⟩
    rw [size_tl, List.take_length] at gD
    have gD2 : H' D = some (.lst (((tl z).map inDg).map V.bl)) := by rw [gD, List.map_map]; rfl
    refine ⟨D, (tl z).map inDg, rfl, SqL.of gD2, ?_⟩
    have ea : ((tl z).map inDg).all id = (tl z).all inDg := by rw [List.all_map]; rfl
    rw [ea]
    refine ⟨_, rfl, ?_⟩
    by_cases hd : (tl z).all inDg = true
    rotate_left
    · rw [Bool.not_eq_true _ |>.mp hd]
      refine iteT (bad ?_ H' sm)
      unfold numF
      rw [if_neg (fun q => hd q.2)]
    rw [hd]
    refine iteF ?_
    have ad := dg_all hd
    have ne : tl z ≠ [] := fun e => by rw [len_tl, e] at h1; exact absurd h1 (by decide)
    have it : PySem.intText? z = some ((NumText.digitsVal (tl z) : Nat) : Int) := intText_digits ad ne (by omega)
    have lg := dv_log ad (by rw [← len_tl]; omega)
    refine ⟨_, rfl, z, _, rfl, it, by omega, _, rfl, lg, _, rfl, rfl, _, rfl, ?_⟩
    have fin := k H' sm
    have e0 : numF (tl z) wd = if TL.numL (NumText.digitsVal (tl z)) = tl z then some (NumText.digitsVal (tl z)) else none := by
      unfold numF
      rw [if_pos ⟨⟨by rw [← len_tl]; omega, by rw [← len_tl]; omega⟩, hd⟩]
    rw [e0] at fin
    by_cases c : TL.numL (NumText.digitsVal (tl z)) = tl z
    · rw [if_pos c] at fin
      rw [decide_eq_true (by show V.str (Str.ofString (toString ((NumText.digitsVal (tl z) : Nat) : Int))) = V.str z; rw [SX.num_S, c, S_tl])]
      exact iteT ⟨_, rfl, z, _, rfl, it, by omega, fin⟩
    · rw [if_neg c] at fin
      rw [decide_eq_false (fun q => c (by
        have q : V.str (Str.ofString (toString ((NumText.digitsVal (tl z) : Nat) : Int))) = V.str z := q
        rw [SX.num_S] at q
        exact congrArg tl (V.str.inj q)))]
      exact iteF fin
/-- what a made name tells: a text or a number -/
inductive What where
  | t (l : List Nat)
  | n (k : Nat)
  deriving DecidableEq
def What.v : What → V
  | .t l => .str (SX.S l)
  | .n k => .int (k : Int)
def partF (c : Nat) (l : List Nat) : Option What := if c = 110 then (if userL l = true then some (.t l) else none) else (numF l (if c = 114 then 6 else 2)).map What.n
def oWhat : Option What → V
  | some w => w.v
  | none => .non
def letters4 : List Nat := [115, 106, 110, 114]
def sp_part_of (K : PySem.W.Frag) : Sp := fun vs H Q _ => ∃ (c : Nat) (z : Str), vs = [.str (SX.S [c]), .str z] ∧ c ∈ letters4 ∧ z.length ≤ 100000 ∧ ∀ H', Same H H' → Q (oWhat (partF c (tl z))) H'
theorem ok_part_of {P : Program} {w : World} {K : PySem.W.Frag} {mg : Str → Option Value} {base : Heap} {fd : FuncData} (T : Txt K mg w) (F : FnP K "part_of" s_part_of [] fd) : FnOk P w K mg base CX0 2 (He.ga K "part_of") fd ps_part_of (sp_part_of K) := by
  obtain ⟨fd_number_of, F_number_of⟩ := T.d_number_of
  have G_number_of := ok_number_of (P := P) (w := w) (base := base) T F_number_of
  have k_number_of := F_number_of.kp
  have b_number_of := bi_number_of F_number_of
  obtain ⟨fd_is_user_name, F_is_user_name⟩ := T.d_is_user_name
  have G_is_user_name := ok_is_user_name (P := P) (w := w) (base := base) T F_is_user_name
  have k_is_user_name := F_is_user_name.kp
  have b_is_user_name := bi_is_user_name F_is_user_name
  refine F.ok sc_part_of (fun vs H Q E h => ?len) (fun cdv A outer s H vs Q E hr h => ?body)
  case len => obtain ⟨c, z, rfl, hc, hz, k⟩ := h; rfl
  case body =>
  obtain ⟨c, z, rfl, hc, hz, k⟩ := h
  have hu := hu_of hr
  refine ⟨_, PSs.nox (pss_cons (ps_if (pt_cmpR op_eq (pv 0) pe_str (nomark _)) (pss_one (ps_ret (pe_ifExp (pt_val (pe_call G_is_user_name (hr.mono (by first | decide | omega)) rfl T.g_is_user_name k_is_user_name b_is_user_name .nil pass0 (pa_cons (pv 1) pa_nil))) (pv 1) pe_non))) pss_nil)
    (pss_one (ps_ret (pe_call G_number_of (hr.mono (by first | decide | omega)) rfl T.g_number_of k_number_of b_number_of .nil pass0 (pa_cons (pv 1) (pa_cons (pe_ix ix_kdict (pe_glob (v := .ref (He.ga K "HIGHEST")) rfl T.g_HIGHEST rfl) (pv 0) (fun _ _ => rfl)) pa_nil)))))), ?_⟩
  refine ⟨_, rfl, rfl, _, rfl, ?_⟩
  by_cases hn : c = 110
  · subst hn
    rw [decide_eq_true (by decide +kernel)]
    refine iteT ⟨_, rfl, _, rfl, .inl True.intro, (fun z' e => by cases e; exact hz), fun H' S => ⟨_, rfl, ?_⟩⟩
    have q := k H' S
    show if userB z = true then _ else _
    by_cases u : userL (tl z) = true
    · have e : partF 110 (tl z) = some (.t (tl z)) := by unfold partF; rw [if_pos rfl, if_pos u]
      rw [e] at q
      rw [show userB z = true from u]
      refine iteT ⟨_, rfl, ?_⟩
      have q : Q (.str (SX.S (tl z))) H' := q
      rw [S_tl] at q
      exact q
    · have e : partF 110 (tl z) = none := by unfold partF; rw [if_pos rfl, if_neg u]
      rw [e] at q
      rw [show userB z = false from Bool.not_eq_true _ |>.mp u]
      exact iteF q
  · rw [decide_eq_false (fun q => hn (by
      have q : V.str (SX.S [c]) = V.str "n" := q
      have e := congrArg tl (V.str.inj q)
      have e2 : tl (Str.ofString "n") = [110] := by decide +kernel
      rw [e2] at e
      exact List.head_eq_of_cons_eq e))]
    refine iteF ?_
    have num : ∀ (x : Str) (hi : Int) (wd : Nat), KDct K w (He.ga K "HIGHEST") (SX.S [c]) (.int hi) → (hi = 99 ∧ wd = 2 ∨ hi = 999999 ∧ wd = 6) → (if c = 114 then 6 else 2) = wd →
        tCall (sp_number_of K) [] E0 (tCons (tVar 1) (tCons (tOp (rIxD K w) (tC (.ref (He.ga K "HIGHEST"))) (tVar 0)) tNil)) [some (.str (SX.S [c])), some (.str z)] H Q := fun x hi wd kd hw ew =>
      ⟨_, rfl, _, rfl, _, _, _, rfl, rfl, kd, z, hi, wd, rfl, hz, hw, fun H' S => by
        have q := k H' S
        unfold partF at q
        rw [if_neg hn, ew] at q
        cases e : numF (tl z) wd with
        | none => rw [e] at q; exact q
        | some m => rw [e] at q; exact q⟩
    have O := exT T.ex
    simp only [letters4, List.mem_cons, List.not_mem_nil, or_false] at hc
    rcases hc with rfl | rfl | rfl | rfl
    · exact num "s" 99 2 (kdct_of T.kd_HIGHEST O.val_HIGHEST (q := ("s", .int 99)) (by simp)) (.inl ⟨rfl, rfl⟩) rfl
    · exact num "j" 99 2 (kdct_of T.kd_HIGHEST O.val_HIGHEST (q := ("j", .int 99)) (by simp)) (.inl ⟨rfl, rfl⟩) rfl
    · exact absurd rfl hn
    · exact num "r" 999999 6 (kdct_of T.kd_HIGHEST O.val_HIGHEST (q := ("r", .int 999999)) (by simp)) (.inr ⟨rfl, rfl⟩) rfl

/-! ### the last dash -/
def lastDash : List Nat → Option (List Nat × List Nat)
  | [] => none
  | c :: l => match lastDash l with
    | some (m, e) => some (c :: m, e)
    | none => if c = 45 then some ([], l) else none
theorem dash_none : ∀ {l : List Nat}, lastDash l = none → 45 ∉ l
  | [], _ => by simp
  | c :: l, h => by
    unfold lastDash at h
    split at h
    · cases h
    · rename_i e
      split at h
      · cases h
      · rename_i hc
        intro z
        rcases List.mem_cons.mp z with q | q
        · exact hc q.symm
        · exact dash_none e q
theorem dash_some : ∀ {l m e : List Nat}, lastDash l = some (m, e) → l = m ++ 45 :: e ∧ 45 ∉ e
  | [], _, _, h => by cases h
  | c :: l, m, e, h => by
    unfold lastDash at h
    split at h
    · rename_i m' e' q
      cases h
      obtain ⟨h1, h2⟩ := dash_some q
      exact ⟨by rw [h1]; rfl, h2⟩
    · rename_i q
      split at h
      · rename_i hc
        cases h
        exact ⟨by rw [hc]; rfl, dash_none q⟩
      · cases h
theorem extract_list (z : Str) (i j : Nat) : (z.cps.extract i j).toList = ((tl z).drop i).take (j - i) := by
  unfold tl
  rw [Array.toList_extract, List.extract_eq_take_drop]
theorem sub_S (z : Str) (i j : Nat) : Builtin.Str.strSub z i j = SX.S (((tl z).drop i).take (j - i)) := by
  show (⟨z.cps.extract i j⟩ : Str) = _
  rw [← extract_list, SX.S, Array.toArray_toList]
theorem at_dash {z : Str} {i : Nat} : Builtin.Str.subAt z "-" i = true ↔ (tl z)[i]? = some 45 := by
  unfold Builtin.Str.subAt
  rw [beq_iff_eq]
  have e : (("-" : Str)).cps = #[45] := by decide +kernel
  have el : (("-" : Str)).length = 1 := by decide +kernel
  rw [e, el]
  have q : z.cps.extract i (i + 1) = #[45] ↔ ((tl z).drop i).take 1 = [45] := by
    rw [← Array.toList_inj, extract_list, Nat.add_sub_cancel_left]
  rw [q]
  cases h : (tl z).drop i with
  | nil =>
    have : (tl z).length ≤ i := List.drop_eq_nil_iff.mp h
    rw [List.getElem?_eq_none_iff.mpr this]
    simp
  | cons c r =>
    have hc : (tl z)[i]? = some c := by rw [← List.head?_drop, h]; rfl
    rw [hc]
    simp
theorem rsplit_dash {z : Str} {m e : List Nat} (h : tl z = m ++ 45 :: e) (hn : 45 ∉ e) : PySem.Txt.rsplitMax z "-" 1 = [SX.S m, SX.S e] := by
  have hl : z.length = m.length + 1 + e.length := by rw [len_tl, h, List.length_append, List.length_cons]; omega
  have el : (("-" : Str)).length = 1 := by decide +kernel
  have occ : Builtin.Str.occurrencesFromRight z "-" (limitOf z 1) = [m.length] := by
    show Builtin.Str.occurrencesFromRight z "-" 1 = [m.length]
    rw [StrLaws.occR_eq, occR_one z "-" el (j := m.length) (by omega) ⟨by omega, at_dash.mpr (by rw [h, List.getElem?_append_right (Nat.le_refl _), Nat.sub_self]; rfl)⟩ ?_ (z.length + 1) 0 (by omega) (by omega) (by omega)]
    · rfl
    · intro i h1 h2
      cases q : Builtin.Str.subAt z "-" i with
      | false => rfl
      | true =>
        have z1 := at_dash.mp q
        rw [h, List.getElem?_append_right (by omega), show i - m.length = (i - m.length - 1) + 1 by omega, List.getElem?_cons_succ] at z1
        exact absurd (List.mem_of_getElem? z1) hn
  have kind : (decide (z.length < ("-" : Str).length) || decide (Builtin.Str.strKind z < Builtin.Str.strKind "-")) = false := by
    rw [decide_eq_false (by rw [el]; omega), decide_eq_false]
    · rfl
    · have k1 : Builtin.Str.strKind "-" = 1 := by decide +kernel
      rw [k1]
      unfold Builtin.Str.strKind
      split
      · decide
      · split <;> decide
  unfold PySem.Txt.rsplitMax
  rw [if_neg (by rw [kind]; decide), occ, if_neg (by simp)]
  unfold Builtin.Str.partsBetween
  show [Builtin.Str.strSub z 0 m.length, Builtin.Str.strSub z (m.length + ("-" : Str).length) z.length] = _
  rw [sub_S, sub_S, el, h]
  have e1 : List.take (m.length - 0) (List.drop 0 (m ++ 45 :: e)) = m := by simp
  have e2 : List.take (z.length - (m.length + 1)) (List.drop (m.length + 1) (m ++ 45 :: e)) = e := by
    rw [show m ++ 45 :: e = (m ++ [45]) ++ e by simp, List.drop_left' (by simp)]
    exact List.take_of_length_le (by omega)
  rw [e1, e2]
/-! ### made names taken apart -/
abbrev Ap : Type := List Nat × Nat × What
def isR : Option Ap → Bool
  | some (_, c, _) => c == 114
  | none => false
def apartN : Nat → List Nat → Option Ap
  | 0, _ => none
  | n + 1, l => if 22 < l.length then none else match lastDash l with
    | some (m, c :: r) => if c ∈ letters4 then (match partF c r with
      | some w => if (userL m || (c == 115 && isR (apartN n m))) = true then some (m, c, w) else none
      | none => none) else none
    | _ => none
def makerN (n : Nat) (m : List Nat) (c : Nat) : Bool := userL m || (c == 115 && isR (apartN n m))
theorem apart_fuel : ∀ (n : Nat) (l : List Nat), l.length < n → apartN n l = apartN (n + 1) l
  | 0, _, h => by omega
  | n + 1, l, h => by
    unfold apartN
    by_cases c : 22 < l.length
    · rw [if_pos c, if_pos c]
    · rw [if_neg c, if_neg c]
      split
      · rename_i m c' r e
        have hd := (dash_some e).1
        have hl := congrArg List.length hd
        rw [List.length_append, List.length_cons, List.length_cons] at hl
        rw [apart_fuel n m (by omega)]
      · rfl
theorem apart_up {l : List Nat} : ∀ {n k : Nat}, l.length < n → apartN (n + k) l = apartN n l
  | n, 0, _ => rfl
  | n, k + 1, h => by
    rw [← Nat.add_assoc, ← apart_fuel (n + k) l (by omega), apart_up h]
theorem apart_long {l : List Nat} {n : Nat} (h : 22 < l.length) : apartN n l = none := by
  cases n with
  | zero => rfl
  | succ n => unfold apartN; rw [if_pos h]
/-- a made name taken apart -/
def apartL (l : List Nat) : Option Ap := apartN 24 l
theorem apart_eq {l : List Nat} {n : Nat} (h : l.length < n ∨ 22 < l.length) (hn : n ≤ 24) : apartN n l = apartL l := by
  unfold apartL
  rcases h with h | h
  · rw [show 24 = n + (24 - n) by omega, apart_up h]
  · rw [apart_long h, apart_long h]
def makerL (m : List Nat) (c : Nat) : Bool := userL m || (c == 115 && isR (apartL m))
def apartV : V → Option Ap
  | .str z => apartL (tl z)
  | _ => none
def makerV : V → Nat → Bool
  | .str z, c => makerL (tl z) c
  | _, _ => false
def ApR (H : Hp) (v : V) : Option Ap → Prop
  | none => v = .non
  | some (m, c, w) => ∃ p, v = .ref p ∧ H p = some (.tup [.str (SX.S m), .str (SX.S [c]), w.v])
/-- short enough for n turns -/
def Trn (n : Nat) (x : V) : Prop := ∀ z, x = .str z → z.length < n ∨ 22 < z.length
def sp_apart (n : Nat) (K : PySem.W.Frag) : Sp := fun vs H Q _ => ∃ (x : V), vs = [x] ∧ Vl H x ∧ Shrt x ∧ Trn n x ∧ (0 < n ∧ n ≤ 24) ∧ ∀ v H', Same H H' → ApR H' v (apartV x) → Q v H'
def sp_is_maker (n : Nat) (K : PySem.W.Frag) : Sp := fun vs H Q _ => ∃ (x : V) (c : Nat), vs = [x, .str (SX.S [c])] ∧ Vl H x ∧ Shrt x ∧ Trn n x ∧ (0 < n ∧ n ≤ 24) ∧ ∀ H', Same H H' → Q (.bl (makerV x c)) H'
theorem Vl.same {H H' : Hp} {x : V} (h : Vl H x) (s : Same H H') : Vl H' x := by
  rcases h with h | ⟨a, e, ⟨xs, g⟩ | ⟨xs, g⟩ | ⟨xs, g⟩⟩
  · exact .inl h
  · exact .inr ⟨a, e, .inl ⟨xs, s _ _ g⟩⟩
  · exact .inr ⟨a, e, .inr (.inl ⟨xs, s _ _ g⟩)⟩
  · exact .inr ⟨a, e, .inr (.inr ⟨xs, s _ _ g⟩)⟩
theorem isS_str {x : V} (h : isS x = true) : ∃ z, x = .str z := by cases x <;> first | exact ⟨_, rfl⟩ | cases h
theorem tl_s : tl (Str.ofString "s") = [115] := by decide +kernel
theorem tl_r : tl (Str.ofString "r") = [114] := by decide +kernel
theorem one_ne {c d : Nat} (h : c ≠ d) {t : Str} (ht : tl t = [d]) : V.str (SX.S [c]) ≠ V.str t := fun q => h (by
  have e := congrArg tl (V.str.inj q)
  rw [ht] at e
  exact List.head_eq_of_cons_eq e)
theorem one_eq {d : Nat} {t : Str} (ht : tl t = [d]) : SX.S [d] = t := by rw [← ht, S_tl]
theorem Same.trans' {H H1 H2 : Hp} (a : Same H H1) (b : Same H1 H2) : Same H H2 := fun x o h => b x o (a x o h)
theorem ok_is_maker {P : Program} {w : World} {K : PySem.W.Frag} {mg : Str → Option Value} {base : Heap} {fd : FuncData} (T : Txt K mg w) (F : FnP K "is_maker" s_is_maker [] fd) {n : Nat} (IH : ∀ {fd : FuncData}, FnP K "apart" s_apart [] fd → FnOk P w K mg base CX0 (2 * n + 3) (He.ga K "apart") fd ps_apart (sp_apart n K)) : FnOk P w K mg base CX0 (2 * n + 4) (He.ga K "is_maker") fd ps_is_maker (sp_is_maker n K) := by
  obtain ⟨fd_is_user_name, F_is_user_name⟩ := T.d_is_user_name
  have G_is_user_name := ok_is_user_name (P := P) (w := w) (base := base) T F_is_user_name
  have k_is_user_name := F_is_user_name.kp
  have b_is_user_name := bi_is_user_name F_is_user_name
  obtain ⟨fd_apart, F_apart⟩ := T.d_apart
  have G_apart := IH F_apart
  have k_apart := F_apart.kp
  have b_apart := bi_apart F_apart
  refine F.ok sc_is_maker (fun vs H Q E h => ?len) (fun cdv A outer s H vs Q E hr h => ?body)
  case len => obtain ⟨x, c, rfl, hv, hs, ht, hn, k⟩ := h; rfl
  case body =>
  obtain ⟨x, c, rfl, hv, hs, ht, hn, k⟩ := h
  have hu := hu_of hr
  refine ⟨_, PSs.nox (pss_cons (ps_if (pt_val (pe_call G_is_user_name (hr.mono (by first | decide | omega)) rfl T.g_is_user_name k_is_user_name b_is_user_name .nil pass0 (pa_cons (pv 0) pa_nil))) (pss_one (ps_ret pe_bl)) pss_nil)
    (pss_cons (ps_if (pt_cmpR op_ne (pv 1) pe_str (nomark _)) (pss_one (ps_ret pe_bl)) pss_nil)
    (pss_cons (ps_set (i := 2) sc_is_maker.nd rfl (Or.inl rfl) (pe_call G_apart (hr.mono (by first | decide | omega)) rfl T.g_apart k_apart b_apart .nil pass0 (pa_cons (pv 0) pa_nil)))
    (pss_one (ps_ret (pe_and (pe_cmpR op_notN (pv 2) pe_non (nomark _)) (pe_one (pe_cmpR op_eq (pe_ix ix_tup (pv 2) pe_int (fun _ _ => rfl)) pe_str (nomark _))))))))), ?_⟩
  refine ⟨_, rfl, x, rfl, hv, hs, fun H1 S1 => ⟨_, rfl, ?_⟩⟩
  by_cases hu : userV x = true
  · rw [hu]
    refine iteT ?_
    have q := k H1 S1
    have e : makerV x c = true := by
      cases x with
      | str z => show (userL (tl z) || _) = true; rw [show userL (tl z) = true from hu]; rfl
      | _ => cases hu
    rw [e] at q
    exact q
  rw [Bool.not_eq_true _ |>.mp hu]
  refine iteF ⟨_, rfl, rfl, _, rfl, ?_⟩
  by_cases hc : c = 115
  · subst hc
    rw [decide_eq_true (congrArg V.str (one_eq tl_s))]
    refine iteF ⟨_, rfl, x, rfl, hv.same S1, hs, ht, hn, fun v H2 S2 R2 => ?_⟩
    have q := k H2 (Same.trans' S1 S2)
    have e : makerV x 115 = isR (apartV x) := by
      cases x with
      | str z => show (userL (tl z) || (true && isR (apartL (tl z)))) = _; rw [show userL (tl z) = false from Bool.not_eq_true _ |>.mp hu]; rfl
      | _ => rfl
    rw [e] at q
    refine ⟨_, rfl, rfl, _, rfl, ?_⟩
    generalize apartV x = ap at R2 q
    match ap, R2, q with
    | none, R2, q =>
      cases R2
      exact iteF q
    | some (m, c, w), ⟨p, ev, g⟩, q =>
      cases ev
      refine iteT ⟨_, rfl, p, _, 1, _, rfl, rfl, SqT.of g, rfl, rfl, ?_⟩
      have q : Q (.bl (c == 114)) H2 := q
      by_cases hc : c = 114
      · subst hc
        rw [decide_eq_true (congrArg V.str (one_eq tl_r))]
        exact q
      · rw [decide_eq_false (one_ne hc tl_r)]
        rw [beq_false_of_ne hc] at q
        exact q
  · rw [decide_eq_false (one_ne hc tl_s)]
    refine iteT ?_
    have q := k H1 S1
    have e : makerV x c = false := by
      cases x with
      | str z => show (userL (tl z) || (c == 115 && _)) = false; rw [show userL (tl z) = false from Bool.not_eq_true _ |>.mp hu, beq_false_of_ne hc]; rfl
      | _ => rfl
    rw [e] at q
    exact q
theorem tl_d : tl (Str.ofString "-") = [45] := by decide +kernel
theorem one_v {d : Nat} {t : Str} (ht : tl t = [d]) : V.str t = V.str ⟨#[d]⟩ := by
  rw [← one_eq ht]
theorem in4_yes {c : Nat} (h : c ∈ letters4) : inV (.str (SX.S [c])) [V.str "s", .str "j", .str "n", .str "r"] = true := by
  simp only [letters4, List.mem_cons, List.not_mem_nil, or_false] at h
  rcases h with rfl | rfl | rfl | rfl <;> decide +kernel
theorem in4_no {c : Nat} (h : c ∉ letters4) : inV (.str (SX.S [c])) [V.str "s", .str "j", .str "n", .str "r"] = false := by
  have key : ∀ {d : Nat} {t : Str}, tl t = [d] → d ∈ letters4 → eqV (.str t) (.str (SX.S [c])) = false := fun {d t} ht hd => by
    show (t == SX.S [c]) = false
    exact beq_false_of_ne fun e => one_ne (c := c) (d := d) (fun q => h (q ▸ hd)) ht (congrArg V.str e.symm)
  show (eqV _ _ || (eqV _ _ || (eqV _ _ || (eqV _ _ || false)))) = false
  rw [key tl_s (by decide), key (d := 106) (by decide +kernel) (by decide), key (d := 110) (by decide +kernel) (by decide), key tl_r (by decide)]
  rfl
theorem ok_apart {P : Program} {w : World} {K : PySem.W.Frag} {mg : Str → Option Value} {base : Heap} {fd : FuncData} (T : Txt K mg w) (F : FnP K "apart" s_apart [] fd) {n : Nat} (IH : ∀ {fd : FuncData}, FnP K "is_maker" s_is_maker [] fd → FnOk P w K mg base CX0 (2 * n + 4) (He.ga K "is_maker") fd ps_is_maker (sp_is_maker n K)) : FnOk P w K mg base CX0 (2 * (n + 1) + 3) (He.ga K "apart") fd ps_apart (sp_apart (n + 1) K) := by
  obtain ⟨fd_part_of, F_part_of⟩ := T.d_part_of
  have G_part_of := ok_part_of (P := P) (w := w) (base := base) T F_part_of
  have k_part_of := F_part_of.kp
  have b_part_of := bi_part_of F_part_of
  obtain ⟨fd_is_maker, F_is_maker⟩ := T.d_is_maker
  have G_is_maker := IH F_is_maker
  have k_is_maker := F_is_maker.kp
  have b_is_maker := bi_is_maker F_is_maker
  obtain ⟨t_MOST_MADE, h_MOST_MADE⟩ := T.c_MOST_MADE
  refine F.ok sc_apart (fun vs H Q E h => ?len) (fun cdv A outer s H vs Q E hr h => ?body)
  case len => obtain ⟨x, rfl, hv, hs, ht, hn, k⟩ := h; rfl
  case body =>
  obtain ⟨x, rfl, hv, hs, ht, hn, k⟩ := h
  have hu := hu_of hr
  refine ⟨_, PSs.nox (pss_cons (ps_if (PW.pt (pw_or (pt_not (pt_val (pe_callB call_isi (by rfl) T.n_isinstance (by decide +kernel) (pa_cons (pv 0) (pa_cons (pe_bltn (v := .ty "str") rfl T.n_str (by decide +kernel) rfl) pa_nil))))) (pw_or (pt_cmpR op_gt (pe_callB call_len_str (by rfl) T.n_len (by decide +kernel) (pa_cons (pv 0) pa_nil)) (pe_glob (v := .int 22) rfl h_MOST_MADE ⟨_, rfl⟩) (nomark _)) (pw_or1 (pt_cmpR op_notIn_sign pe_str (pv 0) (by rfl)))))) (pss_one (ps_ret pe_non)) pss_nil)
    (pss_cons (ps_asg (pe_bm PySem.F.plainAttrs_str PySem.F.slot_str_rsplit PySem.F.type_str_rsplit mt_rsplitMax (pv 0) (pa_cons pe_str (pa_cons pe_int pa_nil))) (pg_lst rfl (pgs_cons (pg_name (i := 1) sc_apart.nd rfl (Or.inl rfl)) (pgs_cons (pg_name (i := 2) sc_apart.nd rfl (Or.inl rfl)) pgs_nil))))
    (pss_cons (ps_if (pt_cmpR op_notIn_seq (pe_slice sl_str (pv 2) po_none (po_some pe_int)) (pe_tup (pa_cons pe_str (pa_cons pe_str (pa_cons pe_str (pa_cons pe_str pa_nil))))) (by rfl)) (pss_one (ps_ret pe_non)) pss_nil)
    (pss_cons (ps_set (i := 3) sc_apart.nd rfl (Or.inl rfl) (pe_call G_part_of (hr.mono (by first | decide | omega)) rfl T.g_part_of k_part_of b_part_of .nil pass0 (pa_cons (pe_ix ix_str (pv 2) pe_int (fun _ _ => rfl)) (pa_cons (pe_slice sl_str (pv 2) (po_some pe_int) po_none) pa_nil))))
    (pss_cons (ps_if (PW.pt (pw_or (pt_cmpR op_isN (pv 3) pe_non (nomark _)) (pw_or1 (pt_not (pt_val (pe_call G_is_maker (hr.mono (by first | decide | omega)) rfl T.g_is_maker k_is_maker b_is_maker .nil pass0 (pa_cons (pv 1) (pa_cons (pe_ix ix_str (pv 2) pe_int (fun _ _ => rfl)) pa_nil)))))))) (pss_one (ps_ret pe_non)) pss_nil)
    (pss_one (ps_ret (pe_tup (pa_cons (pv 1) (pa_cons (pe_ix ix_str (pv 2) pe_int (fun _ _ => rfl)) (pa_cons (pv 3) pa_nil))))))))))), ?_⟩
  obtain ⟨u, h1, h2⟩ := vl_str (K := K) hv
  have bad : ∀ H', Same H H' → apartV x = none → Q .non H' := fun H' S e => k .non H' S (by rw [e]; rfl)
  by_cases hx : isS x = true
  rotate_left
  · refine ⟨_, rfl, x, .ty "str", _, _, _, rfl, .ty "str", h1, h2, _, rfl, ?_⟩
    rw [Bool.not_eq_true _ |>.mp hx]
    exact iteT (iteT (bad H (Same.refl H) (by cases x <;> first | rfl | exact absurd rfl hx)))
  obtain ⟨z, rfl⟩ := isS_str hx
  have hz := hs z rfl
  have bad : ∀ H', Same H H' → apartL (tl z) = none → Q .non H' := bad
  refine ⟨_, rfl, .str z, .ty "str", _, _, _, rfl, .ty "str", h1, h2, _, rfl, iteF ?_⟩
  refine ⟨_, rfl, z, rfl, small5 hz, _, _, rfl, rfl, _, rfl, ?_⟩
  by_cases hl : (22 : Int) < (z.length : Int)
  · rw [decide_eq_true hl]
    exact iteT (iteT (bad H (Same.refl H) (apart_long (by rw [← len_tl]; omega))))
  rw [decide_eq_false hl]
  have hl2 : (tl z).length ≤ 22 := by rw [← len_tl]; omega
  have un : apartL (tl z) = apartN (n + 1) (tl z) := (apart_eq (by rw [← len_tl]; exact ht z rfl) hn.2).symm
  refine iteF ⟨_, rfl, 45, z, one_v tl_d, rfl, _, rfl, ?_⟩
  cases hd : lastDash (tl z) with
  | none =>
    rw [decide_eq_false (show ¬ 45 ∈ z.cps.toList from dash_none hd)]
    exact iteT (bad H (Same.refl H) (by rw [un]; unfold apartN; rw [if_neg (by omega), hd]))
  | some me =>
    obtain ⟨m, e⟩ := me
    obtain ⟨d1, d2⟩ := dash_some hd
    have dl := congrArg List.length d1
    rw [List.length_append, List.length_cons] at dl
    rw [decide_eq_true (show 45 ∈ z.cps.toList by show 45 ∈ tl z; rw [d1]; simp)]
    refine iteF ?_
    refine ⟨_, rfl, rfl, z, Str.ofString "-", 1, rfl, rfl, by decide +kernel, by decide, by decide, by rw [sizeLine_eq]; omega, fun p hp => ?_⟩
    rw [rsplit_dash d1 d2]
    refine ⟨p, _, rfl, SqL.of upd_same, rfl, _, _, rfl, _, _, rfl, rfl, ?_⟩
    have S1 := Same.new (u := .lst ([SX.S m, SX.S e].map V.str)) hp
    generalize upd H p (.lst ([SX.S m, SX.S e].map V.str)) = H1 at S1 ⊢
    refine ⟨_, rfl, _, rfl, _, rfl, small5 (by show e.toArray.size ≤ _; rw [List.size_toArray]; omega), smallN (by show 4 ≤ 1000; decide), fun pt hpt => ?_⟩
    rw [C8.cutS_slice, SX.slice_to (by decide)]
    refine ⟨pt, _, rfl, .inr (SqT.of upd_same), rfl, by decide +kernel, _, rfl, ?_⟩
    have S2 := Same.trans' S1 (Same.new (u := .tup [.str "s", .str "j", .str "n", .str "r"]) hpt)
    have cut1 : (1 : Int).toNat = 1 := rfl
    have none_ : (∀ m' c r, lastDash (tl z) = some (m', c :: r) → c ∈ letters4 → False) → apartL (tl z) = none := fun q => by
      rw [un]
      unfold apartN
      rw [if_neg (by omega)]
      split
      · rename_i m' c' r' eq'
        rw [if_neg (fun hc => q _ _ _ eq' hc)]
      · rfl
    match e, hd, d1, d2, dl with
    | [], hd, d1, d2, dl =>
      rw [show inV (.str (SX.S (List.take (1 : Int).toNat []))) [V.str "s", .str "j", .str "n", .str "r"] = false by decide +kernel]
      exact iteT (bad _ S2 (none_ fun m' c r q => by rw [hd] at q; cases q))
    | c :: r, hd, d1, d2, dl =>
      rw [show List.take (1 : Int).toNat (c :: r) = [c] from rfl]
      by_cases hc : c ∈ letters4
      rotate_left
      · rw [in4_no hc]
        exact iteT (bad _ S2 (none_ fun m' c' r' q hc' => by rw [hd] at q; cases q; exact hc hc'))
      rw [in4_yes hc]
      refine iteF ?_
      rw [List.length_cons] at dl
      have sl : (SX.S (c :: r)).length ≤ 100000 := by show (c :: r).toArray.size ≤ _; rw [List.size_toArray, List.length_cons]; omega
      have er : cutS (SX.S (c :: r)) (some 1) none = SX.S r := by rw [C8.cutS_slice, SX.slice_from (by decide)]; rfl
      refine ⟨_, rfl, SX.S (c :: r), 0, c, rfl, rfl, small5 sl, atI_nat (j := 0) rfl, _, rfl, _, rfl, SX.S (c :: r), rfl, small5 sl, ?_⟩
      refine ⟨c, cutS (SX.S (c :: r)) (some 1) none, rfl, hc, Nat.le_trans (cutS_length _ _ _) sl, fun H3 S3 => ?_⟩
      rw [er, tl_S]
      have S03 := Same.trans' S2 S3
      have un2 : apartL (tl z) = match partF c r with
        | some w => if makerN n m c = true then some (m, c, w) else none
        | none => none := by
        rw [un]
        unfold apartN
        rw [if_neg (by omega), hd]
        show (if c ∈ letters4 then _ else _) = _
        rw [if_pos hc]
        rfl
      have mk : makerN n m c = makerL m c := by
        unfold makerN makerL
        rw [apart_eq (by have h1 := ht z rfl; have h2 := len_tl z; omega) (by omega)]
      rw [mk] at un2
      cases hw : partF c r with
      | none =>
        rw [hw] at un2
        exact ⟨_, rfl, rfl, _, rfl, iteT (iteT (bad _ S03 un2))⟩
      | some w =>
        rw [hw] at un2
        have nv : w.v ≠ V.non := by cases w <;> exact fun q => by cases q
        refine ⟨_, rfl, rfl, _, rfl, ?_⟩
        rw [decide_eq_false (show ¬ (oWhat (some w)) = V.non from nv)]
        refine iteF ⟨_, rfl, _, rfl, SX.S (c :: r), 0, c, rfl, rfl, small5 sl, atI_nat (j := 0) rfl, ?_⟩
        refine ⟨.str (SX.S m), c, rfl, .inl True.intro, (fun z' e => by cases e; show m.toArray.size ≤ _; rw [List.size_toArray]; omega), (fun z' e => by cases e; left; show m.toArray.size < _; rw [List.size_toArray]; have h1 := ht z rfl; have h2 := len_tl z; omega), (by have h1 := ht z rfl; have h2 := len_tl z; omega), fun H4 S4 => ⟨_, rfl, ?_⟩⟩
        have S04 := Same.trans' S03 S4
        by_cases hm : makerL m c = true
        · rw [hm] at un2
          rw [show makerV (V.str (SX.S m)) c = true from hm]
          refine iteF ⟨_, rfl, _, rfl, SX.S (c :: r), 0, c, rfl, rfl, small5 sl, atI_nat (j := 0) rfl, _, rfl, smallN (by show 3 ≤ 1000; decide), fun p5 q5 => ?_⟩
          exact k _ _ (Same.trans' S04 (Same.new q5)) (by show ApR _ _ (apartL (tl z)); rw [un2]; exact ⟨p5, rfl, upd_same⟩)
        · rw [Bool.not_eq_true _ |>.mp hm] at un2
          rw [show makerV (V.str (SX.S m)) c = false from Bool.not_eq_true _ |>.mp hm]
          exact iteT (bad _ S04 un2)
/-- both, by turns -/
theorem ok_both {P : Program} {w : World} {K : PySem.W.Frag} {mg : Str → Option Value} {base : Heap} (T : Txt K mg w) : ∀ n : Nat,
    (∀ {fd : FuncData}, FnP K "apart" s_apart [] fd → FnOk P w K mg base CX0 (2 * n + 3) (He.ga K "apart") fd ps_apart (sp_apart n K)) ∧
    (∀ {fd : FuncData}, FnP K "is_maker" s_is_maker [] fd → FnOk P w K mg base CX0 (2 * n + 4) (He.ga K "is_maker") fd ps_is_maker (sp_is_maker n K))
  | 0 => by
    have no1 : ∀ {vs : List V} {H : Hp} {Q : VK} {E : XK}, sp_apart 0 K vs H Q E → False := fun h => by
      obtain ⟨_, _, _, _, _, ⟨h, _⟩, _⟩ := h
      exact absurd h (by decide)
    have no2 : ∀ {vs : List V} {H : Hp} {Q : VK} {E : XK}, sp_is_maker 0 K vs H Q E → False := fun h => by
      obtain ⟨_, _, _, _, _, _, ⟨h, _⟩, _⟩ := h
      exact absurd h (by decide)
    exact ⟨fun _ => ⟨fun _ _ _ _ h => (no1 h).elim, fun _ _ _ _ _ _ _ _ _ _ _ _ _ h => (no1 h).elim⟩, fun _ => ⟨fun _ _ _ _ h => (no2 h).elim, fun _ _ _ _ _ _ _ _ _ _ _ _ _ h => (no2 h).elim⟩⟩
  | n + 1 => by
    obtain ⟨_, h2⟩ := ok_both T n
    have h3 : ∀ {fd : FuncData}, FnP K "apart" s_apart [] fd → FnOk P w K mg base CX0 (2 * (n + 1) + 3) (He.ga K "apart") fd ps_apart (sp_apart (n + 1) K) := fun F => ok_apart T F h2
    exact ⟨h3, fun F => ok_is_maker T F h3⟩
theorem ok_apartZ {P : Program} {w : World} {K : PySem.W.Frag} {mg : Str → Option Value} {base : Heap} {fd : FuncData} (T : Txt K mg w) (F : FnP K "apart" s_apart [] fd) : FnOk P w K mg base CX0 51 (He.ga K "apart") fd ps_apart (sp_apart 24 K) := (ok_both T 24).1 F
theorem ok_is_makerZ {P : Program} {w : World} {K : PySem.W.Frag} {mg : Str → Option Value} {base : Heap} {fd : FuncData} (T : Txt K mg w) (F : FnP K "is_maker" s_is_maker [] fd) : FnOk P w K mg base CX0 52 (He.ga K "is_maker") fd ps_is_maker (sp_is_maker 24 K) := (ok_both T 24).2 F
theorem trn24 (x : V) : Trn 24 x := fun z _ => by omega
def nameV (x : V) : Bool := userV x || (apartV x).isSome
def sp_is_name (K : PySem.W.Frag) : Sp := fun vs H Q _ => ∃ (x : V), vs = [x] ∧ Vl H x ∧ Shrt x ∧ ∀ H', Same H H' → Q (.bl (nameV x)) H'
theorem ok_is_name {P : Program} {w : World} {K : PySem.W.Frag} {mg : Str → Option Value} {base : Heap} {fd : FuncData} (T : Txt K mg w) (F : FnP K "is_name" s_is_name [] fd) : FnOk P w K mg base CX0 52 (He.ga K "is_name") fd ps_is_name (sp_is_name K) := by
  obtain ⟨fd_is_user_name, F_is_user_name⟩ := T.d_is_user_name
  have G_is_user_name := ok_is_user_name (P := P) (w := w) (base := base) T F_is_user_name
  have k_is_user_name := F_is_user_name.kp
  have b_is_user_name := bi_is_user_name F_is_user_name
  obtain ⟨fd_apart, F_apart⟩ := T.d_apart
  have G_apart := ok_apartZ (P := P) (w := w) (base := base) T F_apart
  have k_apart := F_apart.kp
  have b_apart := bi_apart F_apart
  refine F.ok sc_is_name (fun vs H Q E h => ?len) (fun cdv A outer s H vs Q E hr h => ?body)
  case len => obtain ⟨x, rfl, hv, hs, k⟩ := h; rfl
  case body =>
  obtain ⟨x, rfl, hv, hs, k⟩ := h
  have hu := hu_of hr
  refine ⟨_, PSs.nox (pss_one (ps_ret (pe_or (pe_call G_is_user_name (hr.mono (by first | decide | omega)) rfl T.g_is_user_name k_is_user_name b_is_user_name .nil pass0 (pa_cons (pv 0) pa_nil)) (pe_one (pe_cmpR op_notN (pe_call G_apart (hr.mono (by first | decide | omega)) rfl T.g_apart k_apart b_apart .nil pass0 (pa_cons (pv 0) pa_nil)) pe_non (nomark _)))))), ?_⟩
  refine ⟨_, rfl, x, rfl, hv, hs, fun H1 S1 => ⟨_, rfl, ?_⟩⟩
  by_cases hu : userV x = true
  · rw [hu]
    have q := k H1 S1
    unfold nameV at q
    rw [hu] at q
    exact iteT q
  · rw [Bool.not_eq_true _ |>.mp hu]
    refine iteF ⟨_, rfl, x, rfl, hv.same S1, hs, trn24 x, ⟨by decide, by decide⟩, fun v H2 S2 R2 => ⟨rfl, ?_⟩⟩
    have q := k H2 (Same.trans' S1 S2)
    unfold nameV at q
    rw [Bool.not_eq_true _ |>.mp hu, Bool.false_or] at q
    generalize apartV x = ap at R2 q
    match ap, R2, q with
    | none, R2, q => cases R2; exact q
    | some (m, c, w), ⟨p, ev, g⟩, q => cases ev; exact q

/-! ### dicts whose keys are tuples, walked by items and by values -/
/-- a locked dict with tuple keys, seen as the model's object: its entries by number -/
theorem dt_locked {X : Cx} {pins : List (Addr × Obj)} {σ : L2.St} {H : Hp} {s : Shared} {d : Addr} {o : Obj} {kvs : List (List Key × V)} (I : Inv X pins σ H s) (at_ : H d = some (.frz o (.dT kvs))) :
    ∃ (es : Array DictEntry) (ep : Nat), (d == sysModules) = false ∧ o.data = .dict es ep ∧ s.heap.DictRaw d es ep ∧ es.size = kvs.length ∧
      ∀ {i : Nat} {row : List Key × V}, kvs[i]? = some row → ∃ (lt : i < es.size) (q : Addr), es[i].key = .ref q ∧ H q = some (.tup (row.1.map kV)) ∧ RelV row.2 es[i].val := by
  have ⟨lies, _, mod, xs, rel, ob, es, ep, there, exact_, data_, ents, _⟩ := I.hok d _ at_
  obtain rfl : o = ob := Option.some.inj (lies.symm.trans there)
  have size : es.size = kvs.length := (size_of_entries ents).trans (Paired.length rel).symm
  refine ⟨es, ep, mod, data_, ⟨o, there, exact_, data_⟩, size, fun {i row} e => ?_⟩
  obtain ⟨x, ex, e1, e2, e3⟩ := paired_get rel e
  have lt : i < es.size := size ▸ lt_at e
  have en := entry_at ents i
  rw [ex, Array.getElem?_eq_getElem lt] at en
  have en : es[i] = _ := Option.some.inj en
  exact ⟨lt, x.2.1, by rw [en]; rfl, e2, by rw [en]; exact e3⟩
def ItiT (d : Addr) (o : Obj) (kvs : List (List Key × V)) : It where
  go i H := H d = some (.frz o (.dT kvs)) ∧ i < kvs.length
  yld i H x H' := ∃ (T q : Addr) (row : List Key × V), kvs[i]? = some row ∧ x = .ref T ∧ H T = none ∧ H q = some (.tup (row.1.map kV)) ∧ H' = upd H T (.tup [.ref q, row.2])
  stop i H := H d = some (.frz o (.dT kvs)) ∧ kvs.length ≤ i
def ItvT (d : Addr) (o : Obj) (kvs : List (List Key × V)) : It where
  go i H := H d = some (.frz o (.dT kvs)) ∧ i < kvs.length
  yld i H x H' := H' = H ∧ ∃ row, kvs[i]? = some row ∧ x = row.2
  stop i H := H d = some (.frz o (.dT kvs)) ∧ kvs.length ≤ i
section
variable {P : Program} {w : World} {K : PySem.W.Frag} {d : Addr} {o : Obj} {es : Array DictEntry} {ep : Nat} {kvs : List (List Key × V)}
theorem fp_one {X : Cx} {H : Hp} {pins : List (Addr × Obj)} {it : Addr} (fp : ∀ b ∈ [it], FpOk X pins H b) : FpOk X pins H it := fp it List.mem_cons_self
theorem turn_itiT {elts : List Expr} {kk : Nat} {tpos : Pos} (it : Addr) (data_ : o.data = .dict es ep) : Turn P w K (.Tuple elts kk tpos) (ItiT d o kvs) [it] it (fun i h => ∃ a b, IsItemIter h it d i es.size ep a b) where
  mem := List.mem_cons_self
  obj := fun _ _ ⟨_, _, there⟩ b hb => by
    obtain rfl := List.mem_singleton.mp hb
    exact ⟨_, there, fun _ z => nomatch z⟩
  keep := fun _ _ _ ⟨a, b, there⟩ k => ⟨a, b, k it List.mem_cons_self _ there⟩
  item := fun X eP ew eK calm_ i pins s σ H E I fp st go_ => by
    subst eP ew eK
    obtain ⟨locked, lt0⟩ := go_
    obtain ⟨es', ep', mod, data2, raw, size, rows⟩ := dt_locked I locked
    obtain ⟨rfl, rfl⟩ : es' = es ∧ ep' = ep := by rw [data_] at data2; cases data2; exact ⟨rfl, rfl⟩
    obtain ⟨a, b, there⟩ := st
    have below := Heap.lt_size there
    obtain ⟨row, erow⟩ : ∃ row, kvs[i]? = some row := ⟨_, List.getElem?_eq_getElem lt0⟩
    obtain ⟨lt, q, ek, atq, rv⟩ := rows erow
    refine PySem.wpAny_pyNext_items_item_raw there raw lt fun h1 out pair size1 rest => ⟨_, rfl, PySem.wpAny_letOwnedTupleGo_items (s := { s with heap := h1 }) out fun h2 there2 same => ?_⟩
    have pair2 : h2.get? s.heap.objs.size = some { cls := .type "tuple", data := .seq #[es'[i].key, es'[i].val] } := (same.2 _ (Nat.ne_of_gt below).symm.symm).trans pair
    have fresh_ := I.hok.fresh (Nat.le_refl s.heap.objs.size)
    refine ⟨.ref s.heap.objs.size, upd H s.heap.objs.size (.tup [.ref q, row.2]), I.turnedNew (t' := s.toks) (ch := [it]) (fun c oc nc e => ?_) fp (Nat.le_refl _) ?_, rfl, ⟨_, q, row, erow, rfl, fresh_, atq, rfl⟩, ⟨_, _, there2⟩, fun c hc => ?_⟩
    · have nc : c ≠ it := fun z => nc (z ▸ List.mem_cons_self)
      exact (same.2 c nc).trans (rest c oc nc e)
    · exact ⟨by show 2 ≤ sizeLine; decide, [es'[i].key, es'[i].val], .cons ek (.cons rv .nil), _, pair2, rfl, _, rfl⟩
    · obtain rfl := List.mem_singleton.mp hc
      rw [upd_ne (Nat.ne_of_lt below)]
      exact (fp_one fp).1
  done := fun X eP ew eK calm_ i pins s σ H E I fp st stop_ => by
    subst eP ew eK
    obtain ⟨locked, ge0⟩ := stop_
    obtain ⟨es', ep', mod, data2, raw, size, rows⟩ := dt_locked I locked
    obtain ⟨rfl, rfl⟩ : es' = es ∧ ep' = ep := by rw [data_] at data2; cases data2; exact ⟨rfl, rfl⟩
    obtain ⟨a, b, there⟩ := st
    obtain ⟨f0, f1, f2, f3, f4, f5⟩ := fp_one fp
    exact PySem.wpAny_pyNext_items_end_raw (I.ok.hd calm_) there raw (size ▸ ge0) fun h1 rest => ⟨rfl, I.turned (t' := s.toks) rest f0 f1 f3 f4 f5⟩
  self := fun A i s Q E ⟨_, _, there⟩ h => PySem.W.kcp_self there h
theorem turn_itvT {tg : Expr} (it : Addr) (data_ : o.data = .dict es ep) : Turn P w K tg (ItvT d o kvs) [it] it (fun i h => h.IsValIter it d i es.size ep) where
  mem := List.mem_cons_self
  obj := fun _ _ ⟨ob, there, _, data1⟩ b hb => by
    obtain rfl := List.mem_singleton.mp hb
    exact ⟨ob, there, fun _ z => by rw [data1] at z; cases z⟩
  keep := fun _ _ _ st k => st.at fun ob there => k it List.mem_cons_self ob there
  item := fun X eP ew eK calm_ i pins s σ H E I fp st go_ => by
    subst eP ew eK
    obtain ⟨locked, lt0⟩ := go_
    obtain ⟨es', ep', mod, data2, raw, size, rows⟩ := dt_locked I locked
    obtain ⟨rfl, rfl⟩ : es' = es ∧ ep' = ep := by rw [data_] at data2; cases data2; exact ⟨rfl, rfl⟩
    obtain ⟨row, erow⟩ : ∃ row, kvs[i]? = some row := ⟨_, List.getElem?_eq_getElem lt0⟩
    obtain ⟨lt, q, ek, atq, rv⟩ := rows erow
    obtain ⟨f0, f1, f2, f3, f4, f5⟩ := fp_one fp
    refine PySem.wpAny_pyNext_values_item_raw st raw lt fun h1 st1 same => ?_
    obtain ⟨ob, there, cls_, data1⟩ := id st1
    exact ⟨_, rfl, go_of (s := { s with heap := h1 }) there cls_ data1 (by decide) ⟨row.2, H, I.turned (t' := s.toks) (fun c oc nc e => (same.2 c nc).trans e) f0 f1 f3 f4 f5, rv, ⟨rfl, row, erow, rfl⟩, st1, fun c hc => (fp c hc).1⟩⟩
  done := fun X eP ew eK calm_ i pins s σ H E I fp st stop_ => by
    subst eP ew eK
    obtain ⟨locked, ge0⟩ := stop_
    obtain ⟨es', ep', mod, data2, raw, size, rows⟩ := dt_locked I locked
    obtain ⟨rfl, rfl⟩ : es' = es ∧ ep' = ep := by rw [data_] at data2; cases data2; exact ⟨rfl, rfl⟩
    obtain ⟨f0, f1, f2, f3, f4, f5⟩ := fp_one fp
    exact PySem.wpAny_pyNext_values_end_raw (I.ok.hd calm_) st raw (size ▸ ge0) fun h1 rest => ⟨rfl, I.turned (t' := s.toks) rest f0 f1 f3 f4 f5⟩
  self := fun A i s Q E st h => wpAny_pyIter_valiter st h
end
def iItemsT (td : TE) : TI := fun σ H R => td σ H fun x H1 => ∃ d o kvs, x = .ref d ∧ H1 d = some (.frz o (.dT kvs)) ∧ R (ItiT d o kvs) H1
def iValsT (td : TE) : TI := fun σ H R => td σ H fun x H1 => ∃ d o kvs, x = .ref d ∧ H1 d = some (.frz o (.dT kvs)) ∧ R (ItvT d o kvs) H1
section
variable {X : Cx} {e : Expr} {td : TE} {apos cpos : Pos}
theorem raw_noDict {s : Shared} {d : Addr} {es : Array DictEntry} {ep : Nat} (raw : s.heap.DictRaw d es ep) : ∀ b, Value.ref d = .ref b → ∃ ob, s.heap.get? b = some ob ∧ ob.dict = none := fun b eb => by
  obtain ⟨ob, there, exact_, _⟩ := raw
  cases eb
  exact ⟨ob, there, exact_.2.1⟩
theorem pi_itemsT {elts : List Expr} {kk : Nat} {tpos : Pos} (he : PE X e td) (hbase : attributeBase e "items" X.env (eval e X.env) = eval e X.env := by rfl) (hline : (apos.endLine == cpos.line) = true := by rfl) :
    PI X (.Tuple elts kk tpos) (.Call (.Attribute e "items" apos) [] [] cpos) (iItemsT td) where
  run pins s σ H R I want := wpAny_Call_method (T := "dict") (id := "dict.items") hbase rfl hline PySem.F.plainAttrs_dict PySem.F.slot_dict_items PySem.F.type_dict_items <| thn (he.run pins s σ H _ I want) fun u s1 ⟨x, H1, I1, rx, d, o, kvs, ex, locked, rest⟩ => by
    subst ex; cases rx
    obtain ⟨es, ep, mod, data_, raw, size, _⟩ := dt_locked I1 locked
    refine ⟨raw.typeIs, raw_noDict raw, ?_⟩
    have I2 : Inv X pins σ H1 { s1 with heap := s1.heap.push { cls := .type "dict_items", data := .fields #[.ref d] } } := I1.kept (t' := s1.toks) fun b ob there => Heap.get?_push_of_some _ there
    have raw2 : (s1.heap.push { cls := .type "dict_items", data := .fields #[.ref d] }).DictRaw d es ep := raw.at fun ob there => Heap.get?_push_of_some _ there
    have walk_ : wpAny (model X.prog X.w) X.A (pyIter (.ref s1.heap.objs.size)) (PIE X pins σ (.Tuple elts kk tpos) R) X.xe { s1 with heap := s1.heap.push { cls := .type "dict_items", data := .fields #[.ref d] } } :=
      PySem.wpAny_pyIter_items_raw (d := d) ⟨_, Heap.get?_push_size _ rfl, rfl, rfl⟩ raw2 (pi_one (tk := s1.toks) I2 _ (turn_itiT _ data_) ⟨.none, .none, Heap.get?_push_size _ rfl⟩ rest)
    show wpAny _ _ (callWith cpos (.builtin "dict.items") [.ref d] [] []) _ X.xe s1
    exact method_meetsIn PySem.F.slot_dict_items PySem.F.entry_dict_items rfl (PySem.evalArgs_none ⟨rfl, raw.typeIs, PySem.F.args_dict_items_1 _, _, PySem.meets_dict_items_raw d mod, ⟨es, ep, raw⟩, walk_⟩)
theorem pi_valuesT {tg : Expr} (he : PE X e td) (hbase : attributeBase e "values" X.env (eval e X.env) = eval e X.env := by rfl) (hline : (apos.endLine == cpos.line) = true := by rfl) :
    PI X tg (.Call (.Attribute e "values" apos) [] [] cpos) (iValsT td) where
  run pins s σ H R I want := wpAny_Call_method (T := "dict") (id := "dict.values") hbase rfl hline PySem.F.plainAttrs_dict PySem.F.slot_dict_values PySem.F.type_dict_values <| thn (he.run pins s σ H _ I want) fun u s1 ⟨x, H1, I1, rx, d, o, kvs, ex, locked, rest⟩ => by
    subst ex; cases rx
    obtain ⟨es, ep, mod, data_, raw, size, _⟩ := dt_locked I1 locked
    refine ⟨raw.typeIs, raw_noDict raw, ?_⟩
    have I2 : Inv X pins σ H1 { s1 with heap := s1.heap.push { cls := .type "dict_values", data := .fields #[.ref d] } } := I1.kept (t' := s1.toks) fun b ob there => Heap.get?_push_of_some _ there
    have raw2 : (s1.heap.push { cls := .type "dict_values", data := .fields #[.ref d] }).DictRaw d es ep := raw.at fun ob there => Heap.get?_push_of_some _ there
    have walk_ : wpAny (model X.prog X.w) X.A (pyIter (.ref s1.heap.objs.size)) (PIE X pins σ tg R) X.xe { s1 with heap := s1.heap.push { cls := .type "dict_values", data := .fields #[.ref d] } } :=
      PySem.wpAny_pyIter_values_raw (d := d) ⟨_, Heap.get?_push_size _ rfl, rfl, rfl⟩ raw2 (pi_one (tk := s1.toks) I2 _ (turn_itvT _ data_) ⟨_, Heap.get?_push_size _ rfl, rfl, rfl⟩ rest)
    show wpAny _ _ (callWith cpos (.builtin "dict.values") [.ref d] [] []) _ X.xe s1
    exact method_meetsIn PySem.F.slot_dict_values PySem.F.entry_dict_values rfl (PySem.evalArgs_none ⟨rfl, raw.typeIs, PySem.F.args_dict_values_1 _, _, PySem.meets_dict_values_raw d mod, ⟨es, ep, raw⟩, walk_⟩)
end
theorem walk_itiT {d : Addr} {o : Obj} {kvs : List (List Key × V)} : Walk (ItiT d o kvs) kvs.length (fun H => H d = some (.frz o (.dT kvs))) (ItiT d o kvs).yld :=
  ⟨fun _ _ lt g => ⟨g, lt⟩, fun _ g => ⟨g, Nat.le_refl _⟩, fun _ _ _ _ _ _ y => y⟩
theorem walk_itvT {d : Addr} {o : Obj} {kvs : List (List Key × V)} : Walk (ItvT d o kvs) kvs.length (fun H => H d = some (.frz o (.dT kvs))) (ItvT d o kvs).yld :=
  ⟨fun _ _ lt g => ⟨g, lt⟩, fun _ g => ⟨g, Nat.le_refl _⟩, fun _ _ _ _ _ _ y => y⟩

/-! ### sorted and min of data that have a Lean type -/
section
open PySem.W
variable {X : Cx} {pins : List (Addr × Obj)} {σ : L2.St} {H : Hp} {s : Shared} {α : Type} [DecidableEq α] [DatumOrd α]
/-- the values vs stand for xs -/
abbrev DpA (K : PySem.W.Frag) (H : Hp) (vs : List V) (xs : List α) : Prop := DpAll K H vs (xs.map Datum.toD)
theorem dpA_held {vs : List V} {us : List Value} {xs : List α} (I : Inv X pins σ H s) (d : DpA X.K H vs xs) (r : Vals vs us) : HoldAll s.heap us xs := Dp.readsAll I _ _ _ d r
theorem dpA_len {K : PySem.W.Frag} {H : Hp} : ∀ {vs : List V} {xs : List α}, DpA K H vs xs → vs.length = xs.length
  | [], [], _ => rfl
  | [], _ :: _, d => nomatch d
  | _ :: _, [], d => nomatch d
  | _ :: _, _ :: _, d => match d with | .cons _ t => congrArg (· + 1) (dpA_len t)
theorem held_one {h : Heap} {v : Value} {x y : α} (a : Holds h v x) (b : Holds h v y) : x = y := by
  obtain ⟨_, ra⟩ := a
  obtain ⟨_, rb⟩ := b
  have one := (PySem.Reads.unique ra _ _ rb).1
  have q := Datum.eqv x y
  rw [one, Datum.eqv] at q
  exact of_decide_eq_true (q.symm.trans (decide_eq_true rfl))
def rMinD (K : PySem.W.Frag) (α : Type) [DecidableEq α] [DatumOrd α] : List V → Hp → VK → Prop := fun args H Q => ∃ (a : Addr) (vs : List V) (x : α) (xs : List α), args = [.ref a] ∧ SqL K H a vs ∧ DpA K H vs (x :: xs) ∧
  ∀ (i : Nat) (v : V), vs[i]? = some v → (x :: xs)[i]? = some (minOf x xs) → Q v H
theorem vals_ofArr {vs : List V} {its : List Value} (r : Vals vs its) {i : Nat} {u : Value} (e : its.toArray[i]? = some u) : ∃ v, vs[i]? = some v ∧ RelV v u := by
  rw [List.getElem?_toArray] at e
  induction r generalizing i with
  | nil => simp at e
  | cons h t more =>
    match i, e with
    | 0, e => exact ⟨_, rfl, Option.some.inj e ▸ h⟩
    | i + 1, e => exact more (by simpa using e)
theorem cr_minD (calm_ : X.calm = true) (hu : X.A.units + 64 < cLine) (deep : Datum.depth α ≤ 40) : CallR X (.builtin "min") (rMinD X.K α) := fun pins s σ H args us Q I r ⟨a, vs, x, xs, ea, at_, dp, told⟩ => by
  subst ea
  rw [Vals.ref1 r]
  have ⟨its, vals, lies, _⟩ := I.list at_
  have hold := dpA_held I dp vals
  refine min_list_datum (I.ok.hd calm_) lies.isList (by simpa using hold) (by omega) fun i u h' t eu hu' keep => ?_
  obtain ⟨v, ev, rv⟩ := vals_ofArr vals eu
  obtain ⟨y, ey, hy⟩ := hold.at (i := i) (by simpa using eu)
  have one := held_one (hy.keeps keep) hu'
  exact ⟨v, H, I.kept (t' := t) keep, rv, told i v ev (one ▸ ey)⟩
/-- min(xs, default=d) -/
def rMinDef (K : PySem.W.Frag) (α : Type) [DecidableEq α] [DatumOrd α] : List V → List V → Hp → VK → Prop := fun args kws H Q => ∃ (a : Addr) (vs : List V) (xs : List α) (d : V), args = [.ref a] ∧ kws = [d] ∧ SqL K H a vs ∧ DpA K H vs xs ∧
  (xs = [] → Q d H) ∧ ∀ (y : α) (ys : List α) (i : Nat) (v : V), xs = y :: ys → vs[i]? = some v → xs[i]? = some (minOf y ys) → Q v H
theorem cr_minDef (calm_ : X.calm = true) (hu : X.A.units + 64 < cLine) (deep : Datum.depth α ≤ 40) : CallRK X (.builtin "min") [Str.ofString "default"] (rMinDef X.K α) := fun pins s σ H args kws us ws Q I r rk ⟨a, vs, xs, d, ea, ek, at_, dp, none_, some_⟩ => by
  subst ea ek
  rw [Vals.ref1 r]
  obtain ⟨w', rfl, rd⟩ := rk.one
  have ⟨its, vals, lies, _⟩ := I.list at_
  have hold := dpA_held I dp vals
  refine min_list_datum_default (I.ok.hd calm_) lies.isList (by simpa using hold) (by omega) (fun e h' t keep => ⟨d, H, I.kept (t' := t) keep, rd, none_ e⟩) fun y ys i u h' t e eu hu' keep => ?_
  obtain ⟨v, ev, rv⟩ := vals_ofArr vals eu
  obtain ⟨z, ez, hz⟩ := hold.at (i := i) (by simpa using eu)
  have one := held_one (hz.keeps keep) hu'
  exact ⟨v, H, I.kept (t' := t) keep, rv, some_ y ys i v e ev (one ▸ ez)⟩
/-- in order -/
def leD (a b : α) : Bool := !DatumOrd.lt b a
def srtD (xs : List α) : List α := xs.mergeSort leD
theorem leD_eq : dataLe false (Datum.toD (α := α)) = leD := by
  funext a b
  show (!dataLt (Datum.toD b) (Datum.toD a)) = _
  rw [DatumOrd.lt_eq]; rfl
/-- the values put in order: each stands for what it stood for -/
def rSortD (K : PySem.W.Frag) (α : Type) [DecidableEq α] [DatumOrd α] : List V → Hp → VK → Prop := fun args H Q => ∃ (a : Addr) (vs : List V) (xs : List α), args = [.ref a] ∧ SqL K H a vs ∧ DpA K H vs xs ∧ W.Sortable (xs.map Datum.toD) ∧
  ∀ (p : Addr) (out : List V), H p = none → Paired (fun v x => (v, x) ∈ vs.zip xs) out (srtD xs) → Q (.ref p) (upd H p (.lst out))
theorem out_vals {T : V → α → Prop} {out : List Value} {ys : List α} (e : EachIs (fun u y => ∃ v, T v y ∧ RelV v u) out ys) : ∃ vs, Vals vs out ∧ Paired T vs ys := by
  induction e with
  | nil => exact ⟨[], .nil, .nil⟩
  | cons h _ more =>
    obtain ⟨v, tv, rv⟩ := h
    obtain ⟨vs, a, b⟩ := more
    exact ⟨v :: vs, .cons rv a, .cons tv b⟩
theorem zip_each {T : V → α → Prop} {vs : List V} {us : List Value} {xs : List α} (r : Vals vs us) (len : vs.length = xs.length) (h : ∀ p ∈ vs.zip xs, T p.1 p.2) : EachIs (fun u x => ∃ v, T v x ∧ RelV v u) us xs := by
  induction r generalizing xs with
  | nil =>
    cases xs with
    | nil => exact .nil
    | cons => simp at len
  | cons hr _ more =>
    cases xs with
    | nil => simp at len
    | cons x xs => exact .cons ⟨_, h (_, x) List.mem_cons_self, hr⟩ (more (by simpa using len) fun p hp => h p (List.mem_cons_of_mem _ hp))
theorem held_each {h : Heap} {us : List Value} {xs : List α} (hold : HoldAll h us xs) : EachIs (fun v b => ∃ as, Reads h v (Datum.toD b) as) us xs := have ⟨_, r⟩ := hold; readsAll_each Datum.toD r
theorem cr_sortD (hu : X.A.units + 64 < cLine) (deep : Datum.depth α ≤ 40) : CallR X (.builtin "sorted") (rSortD X.K α) := fun pins s σ H args us Q I r ⟨a, vs, xs, ea, at_, dp, sable, told⟩ => by
  subst ea
  rw [Vals.ref1 r]
  have ⟨its, vals, lies, big⟩ := I.list at_
  have len := dpA_len dp
  have hold := dpA_held I dp vals
  have l2 := hold.length
  refine sorted_data (enc := Datum.toD) lies.isList (zip_each (T := fun v x => (v, x) ∈ vs.zip xs) vals len fun p hp => hp) (held_each hold) (AllAlike.of DatumOrd.alike) sable (by omega) (fun b _ => by have := Datum.depth_le b; omega) fun out lo eo => ?_
  rw [leD_eq] at eo
  obtain ⟨ov, ro, po⟩ := out_vals eo
  obtain ⟨e', there⟩ := sortedAll_at s.heap its out.toArray
  have fresh_ : H (s.heap.objs.size + 1) = none := I.hok.fresh (Nat.le_succ _)
  refine ⟨.ref (s.heap.objs.size + 1), upd H (s.heap.objs.size + 1) (.lst ov), I.laid (t' := s.toks) (fun b u e => sortedAll_old e) (Nat.le_succ _) (show ObjOk X.prog X.w _ _ _ (.lst ov) from ⟨?_, out, e', ro, there⟩), rfl, told _ ov fresh_ po⟩
  rw [ro.length, lo]; omega
end

section
open PySem.W
/-- keys that are tuples of texts -/
abbrev Spot := Tup Str
def kk (t : Spot) : List Key := t.items.map Sum.inr
theorem kk_kV (t : Spot) : (kk t).map kV = t.items.map V.str := by
  unfold kk; rw [List.map_map]; rfl
theorem kk_inj {t u : Spot} (e : kk t = kk u) : t = u := by
  have e := congrArg (List.map kV) e
  rw [kk_kV, kk_kV] at e
  obtain ⟨xs⟩ := t
  obtain ⟨ys⟩ := u
  refine congrArg Tup.mk ?_
  have : ∀ {a b : List Str}, a.map V.str = b.map V.str → a = b := fun {a} => by
    induction a with
    | nil => intro b h; cases b with
      | nil => rfl
      | cons => simp at h
    | cons x a more => intro b h; cases b with
      | nil => simp at h
      | cons y b =>
        rw [List.map_cons, List.map_cons] at h
        injection h with h1 h2
        injection h1 with h1
        rw [h1, more h2]
  exact this e
/-- the tuple of texts t stands at a -/
def SpAt (H : Hp) (a : Addr) (t : Spot) : Prop := H a = some (.tup (t.items.map V.str))
theorem dp_strs {K : PySem.W.Frag} {H : Hp} : ∀ xs : List Str, DpAll K H (xs.map V.str) (xs.map Datum.toD)
  | [] => .nil
  | x :: xs => .cons (.str x) (dp_strs xs)
theorem SpAt.dp {K : PySem.W.Frag} {H : Hp} {a : Addr} {t : Spot} (h : SpAt H a t) : Dp K H (.ref a) (Datum.toD t) := .tup (SqT.of h) (dp_strs t.items)
end

/-! ### dicts with tuple keys: a display of one pair, update by it, pop, sorted -/
section
variable {X : Cx}
def tDispT (tk tv : TE) : TE := fun σ H Q => ∀ p, H p = none → tk σ (upd H p (.dT [])) fun x H1 => tv σ H1 fun y H2 => ∃ (q : Addr) (k : List Key), x = .ref q ∧ H2 p = some (.dT []) ∧ H2 q = some (.tup (k.map kV)) ∧ Q (.ref p) (upd H2 p (.dT [(k, y)]))
/-- what stands at d behind a change of the model's dict: the rows kvs, its keys where they were -/
theorem dt_new {P : Program} {w : World} {H : Hp} {h' : Heap} {d : Addr} {old kvs : List (List Key × V)} {xs : List (List Key × Addr × Value)} (at_ : H d = some (.dT old)) (few : kvs.length ≤ sizeLine) (mod : (d == sysModules) = false) (rel : KT H kvs xs) (lies : h'.DictOfH (tupleKind (mixKind P w)) d xs) :
    (∃ ob, h'.get? d = some ob) ∧ ObjOk P w (upd H d (.dT kvs)) h' d (.dT kvs) := by
  obtain ⟨ob, es, ep, there, exact_, data_, ents, _, once⟩ := lies
  refine ⟨⟨ob, there⟩, few, mod, xs, rel.keeps fun c ys ec => ?_, ob, es, ep, there, exact_, data_, ents, once⟩
  rw [upd_ne (ne_of ec at_ fun z => nomatch z)]
  exact ec
theorem pe_dispT {k v : Expr} {pos : Pos} {tk tv : TE} (hu : X.A.units + 1 < cLine) (hk : PE X k tk) (hv : PE X v tv) : PE X (.Dict [some k] [v] pos) (tDispT tk tv) where
  run pins s σ H Q I want := by
    have fresh_ := I.hok.fresh (Nat.le_refl s.heap.objs.size)
    have I1 := I.laid (a := s.heap.objs.size) (o := .dT []) (h' := s.heap.push { cls := .type "dict", data := .dict #[] }) (t' := s.toks) (fun _ _ e => Heap.get?_push_of_some _ e) (Nat.le_refl _) (dt_empty s.heap I.big)
    rw [arm_eval_Dict, zip_pairTrees [some k] [v] X.env pos rfl rfl, dictDisplay_pairs (pairTrees [some k] [v] X.env pos) (by simp [pairTrees]) (by simp [pairTrees])]
    refine wpAny_bind (wpAny_standAt (wpAny_bind (PySem.wpAny_subDictH (knd := tupleKind (mixKind X.prog X.w)) (Q := fun d s' => wpAny (model X.prog X.w) X.A (pure (Value.ref d)) (EP X pins σ Q) X.xe s') (show X.A.units < cLine by omega) (show 1 ≤ 15 by decide) ?_)))
    refine pairTrees_cons_walk (thn (hk.run pins _ σ _ _ I1 (want _ fresh_)) fun u s1 ⟨x, H1, I2, rx, w1⟩ => thn (hv.run pins s1 σ H1 _ I2 w1) fun u2 s2 ⟨y, H2, I3, ry, q, kk, ex, atp, atq, w2⟩ => pairTrees_nil_walk ?_)
    subst ex; cases rx
    obtain ⟨few, mod, xs, rel, lies⟩ := dt_of I3.hok atp
    cases rel
    refine ⟨[(kk, q, u2)], ⟨rfl, rfl, key_of I3.hok atq, trivial⟩, lies, fun h' t lies2 same => wpAny_pure ?_⟩
    obtain ⟨there, new⟩ := dt_new (kvs := [(kk, y)]) (xs := [(kk, q, u2)]) atp (by show 1 ≤ sizeLine; rw [sizeLine_eq]; decide) mod (.cons ⟨rfl, atq, ry⟩ .nil) lies2
    exact ⟨.ref s.heap.objs.size, _, d_write I3 (by rw [atp]; trivial) same there new, rfl, w2⟩
def rUpdT : V → List V → Hp → VK → Prop := fun x xs H Q => ∃ (a b : Addr) (kvs : List (List Key × V)) (k : List Key) (v : V), x = .ref a ∧ xs = [.ref b] ∧ a ≠ b ∧ H a = some (.dT kvs) ∧ H b = some (.dT [(k, v)]) ∧ kvs.length < sizeLine ∧ Q .non (upd H a (.dT (putK kvs k v)))
theorem mt_updT (hu : X.A.units + 1 < cLine) : MtR X "dict.update" rUpdT := fun pins s σ H x xs v us Q I rx rxs ⟨a, b, kvs, k, y, ex, exs, apart_, at1, at2, few, told⟩ => by
  subst ex exs; cases rx
  rw [Vals.ref1 rxs]
  obtain ⟨_, mod1, xs1, rel1, lies1⟩ := dt_of I.hok at1
  obtain ⟨_, mod2, xs2, rel2, lies2⟩ := dt_of I.hok at2
  cases rel2 with
  | @cons _ row _ rows hrow none_ =>
    cases none_
    obtain ⟨e1, atq, ry⟩ := hrow
    have tup : s.TypeIs (.ref row.2.1) "tuple" := by
      obtain ⟨ob, _, _, there, cls_, _⟩ := key_of (P := X.prog) (w := X.w) I.hok atq
      exact ⟨ob, there, cls_⟩
    have l1 : kvs.length = xs1.length := Paired.length rel1
    refine PySem.call_update_dictH hu apart_ mod2 lies1 lies2 (.inr ⟨fun z hz => by rw [List.mem_singleton.mp hz]; exact tup, List.nodup_cons.mpr ⟨List.not_mem_nil, List.nodup_nil⟩⟩) (by show xs1.length + 1 ≤ _; omega) fun h' new1 _ same => ?_
    have rel3 : KT H (putK kvs k y) (storedH xs1 row.1 row.2.1 row.2.2) := e1 ▸ rel1.put k atq ry
    obtain ⟨there, new⟩ := dt_new at1 (by have := length_putK kvs k y; omega) mod1 rel3 new1
    exact ⟨.non, _, d_write (t' := s.toks) I (by rw [at1]; trivial) same there new, rfl, told⟩
def rPop1T : V → List V → Hp → VK → Prop := fun x xs H Q => ∃ (a q : Addr) (kvs : List (List Key × V)) (k : List Key) (v : V), x = .ref a ∧ xs = [.ref q] ∧ H a = some (.dT kvs) ∧ H q = some (.tup (k.map kV)) ∧ valV kvs k = some v ∧ Q v (upd H a (.dT (dropK kvs k)))
theorem kt_without {H : Hp} (k : List Key) {kvs : List (List Key × V)} {xs : List (List Key × Addr × Value)} (rel : KT H kvs xs) : KT H (dropK kvs k) (withoutH xs k) := by
  unfold dropK withoutH
  induction rel with
  | nil => exact .nil
  | cons hrow t more =>
    rw [List.filter_cons, List.filter_cons, hrow.1]
    split
    · exact .cons hrow more
    · exact more
theorem mt_pop1T (hu : X.A.units + 1 < cLine) : MtR X "dict.pop" rPop1T := fun pins s σ H x xs v us Q I rx rxs ⟨a, q, kvs, k, y, ex, exs, at_, atq, val_, told⟩ => by
  subst ex exs; cases rx
  rw [Vals.ref1 rxs]
  obtain ⟨few, mod, xs1, rel, lies⟩ := dt_of I.hok at_
  obtain ⟨u, eu, ru⟩ := RelO.some_of (v := y) (o := (atKey xs1 k).map (·.2)) (by rw [← val_]; exact rel.val k)
  obtain ⟨row, erow, rfl⟩ := Option.map_eq_some_iff.mp eu
  have l1 : kvs.length = xs1.length := Paired.length rel
  refine call_pop_heap (more := []) (.inl rfl) (PySem.F.args_dict_pop_2 _ _) (tupleKind_room_in1 hu) (key_of I.hok atq) mod lies erow (fun h' lies2 same => ?_) (by omega)
  obtain ⟨there, new⟩ := dt_new at_ (Nat.le_trans (dropK_le kvs k) few) mod (kt_without k rel) lies2
  exact ⟨y, _, d_write (t' := _) I (by rw [at_]; trivial) same there new, ru, told⟩
end
section
open PySem.W
variable {X : Cx}
def rSortT : List V → Hp → VK → Prop := fun args H Q => ∃ (d : Addr) (kvs : List (List Key × V)) (ks : List Spot), args = [.ref d] ∧ H d = some (.dT kvs) ∧ kvs.map (·.1) = ks.map kk ∧ (∀ k ∈ ks, k.items ≠ []) ∧
  ∀ (p : Addr) (out : List V), H p = none → Paired (fun v k => ∃ q, v = .ref q ∧ SpAt H q k) out (srtD ks) → Q (.ref p) (upd H p (.lst out))
theorem spots_each {X : Cx} {pins : List (Addr × Obj)} {σ : L2.St} {H : Hp} {s : Shared} (I : Inv X pins σ H s) : ∀ {us : List Value} {ks : List Spot}, us.length = ks.length → (∀ (i : Nat) u k, us[i]? = some u → ks[i]? = some k → ∃ q, u = .ref q ∧ SpAt H q k) →
    EachIs (fun u k => ∃ v, (∃ q, v = V.ref q ∧ SpAt H q k) ∧ RelV v u) us ks ∧ HoldAll s.heap us ks
  | [], [], _, _ => ⟨.nil, HoldAll.nil⟩
  | [], _ :: _, l, _ => nomatch l
  | _ :: _, [], l, _ => nomatch l
  | u :: us, k :: ks, l, h => by
    obtain ⟨a, b⟩ := spots_each I (us := us) (ks := ks) (by simpa using l) fun i u k eu ek => h (i + 1) u k (by simpa using eu) (by simpa using ek)
    obtain ⟨q, rfl, at_⟩ := h 0 u k rfl rfl
    exact ⟨.cons ⟨.ref q, ⟨q, rfl, at_⟩, rfl⟩ a, HoldAll.cons (Dp.reads I _ _ _ at_.dp rfl) b⟩
theorem cr_sortT (calm_ : X.calm = true) (hu : X.A.units + 64 < cLine) : CallR X (.builtin "sorted") rSortT := fun pins s σ H args us Q I r ⟨d, kvs, ks, ea, at_, keys_, full, told⟩ => by
  subst ea
  rw [Vals.ref1 r]
  obtain ⟨few, mod, xs1, rel, lies⟩ := dt_of I.hok at_
  obtain ⟨ob, es, ep, there, exact_, data_, ents, _, once⟩ := id lies
  have l1 : kvs.length = xs1.length := Paired.length rel
  have l2 : es.size = xs1.length := size_of_entries ents
  have l3 : kvs.length = ks.length := by have := congrArg List.length keys_; simpa using this
  refine Calls.call_function_entry kind_sorted plain_sorted entry_sorted (args_sorted1 _) ?_
  unfold Builtin.«sorted»
  refine wpAny_bind (m := checkCount "sorted" 1 1 _) (wpAny_pure (wpAny_bind (PySem.W.kdu_collect (A := X.A.in1) (PySem.KdlSrc.rawDict (es := es) (ep := ep) mod) (I.ok.hd calm_) ⟨ob, there, exact_, data_⟩ (by omega) fun h1 t1 acc keep1 items => ?_)))
  have I1 : Inv X pins σ H { s with heap := h1, toks := t1 } := I.kept keep1
  have la : acc.toList.length = ks.length := by rw [Array.length_toList, items.1]; omega
  obtain ⟨each_, hold⟩ := spots_each I1 (us := acc.toList) (ks := ks) la fun i u k eu ek => by
    obtain ⟨lt, ev⟩ := items.2 i u (by rw [← Array.getElem?_toList]; exact eu)
    have lt2 : i < kvs.length := by omega
    obtain ⟨x, ex, e1, e2, _⟩ := paired_get rel (List.getElem?_eq_getElem lt2)
    have en := entry_at ents i
    rw [ex, Array.getElem?_eq_getElem lt] at en
    have en : es[i] = _ := Option.some.inj en
    have ek2 : (kvs.map (·.1))[i]? = some (kk k) := by rw [keys_, List.getElem?_map, ek]; rfl
    rw [List.getElem?_map, List.getElem?_eq_getElem lt2] at ek2
    have ek2 : (kvs[i]).1 = kk k := Option.some.inj ek2
    rw [ek2, kk_kV] at e2
    exact ⟨x.2.1, by rw [ev, en]; rfl, e2⟩
  have size1 : acc.toList.length ≤ sizeLine := by omega
  refine wpAny_bind (wpAny_newList ?_ size1)
  have there1 : (h1.push (seqObj "list" acc.toList.toArray 0)).get? h1.objs.size = some (seqObj "list" acc.toList.toArray 0) := Heap.get?_push_size _ rfl
  show wpAny _ _ _ _ _ { s with heap := h1.push (seqObj "list" acc.toList.toArray 0), toks := t1 }
  have old : ∀ b o, h1.get? b = some o → (h1.push (seqObj "list" acc.toList.toArray 0)).get? b = some o := fun b o e => Heap.get?_push_of_some _ e
  have ne1 : ∀ b o, h1.get? b = some o → b ≠ h1.objs.size := fun b o e => Nat.ne_of_lt (Heap.lt_size e)
  generalize h1.push (seqObj "list" acc.toList.toArray 0) = h2 at there1 old ⊢
  have hold2 : HoldAll (sortingHeap h2 h1.objs.size acc.toList) acc.toList ks := hold.keeps fun b o e => sortingHeap_old (ne1 b o e) (old b o e)
  have each2 := held_each hold2
  have alike_ : AllAlike (ks.map Datum.toD) := AllAlike.of DatumOrd.alike
  have sable : W.Sortable (ks.map Datum.toD) := .inl fun e he => by
    obtain ⟨k, hk, rfl⟩ := List.mem_map.mp he
    obtain ⟨items⟩ := k
    cases items with
    | nil => exact absurd rfl (full _ hk)
    | cons x r => exact ⟨_, _, rfl⟩
  refine wpAny_bind (wpAny_holding (wpAny_call_entry slot_list_sort ⟨_, there1, rfl⟩ entry_list_sort (list_sort_vals (s := { s with heap := h2, toks := t1 }) there1 (SortsAt.data (s := { s with heap := sortingHeap h2 h1.objs.size acc.toList, toks := t1 }) (ds := ks.map Datum.toD) (each_map (R := fun v d => ∃ as, Reads (sortingHeap h2 h1.objs.size acc.toList) v d as) Datum.toD each2) alike_ sable fun e he => ?_) size1 ⟨.none, rfl, ?_⟩) (args_list_sort _)))
  · obtain ⟨k, _, rfl⟩ := List.mem_map.mp he
    have := Datum.depth_le k
    have dep : Datum.depth Spot = 1 := rfl
    show X.A.units + 2 + _ < _
    omega
  · have eo := sortVals_data (R := fun u k => ∃ v, (∃ q, v = V.ref q ∧ SpAt H q k) ∧ RelV v u) false each_ each2 alike_
    rw [leD_eq] at eo
    obtain ⟨ov, ro, po⟩ := out_vals eo
    have lo := sortVals_length (κ := dataKind (sortingHeap h2 h1.objs.size acc.toList) (ks.map Datum.toD)) (ks := acc.toList) (vs := acc.toList) false rfl
    obtain ⟨e', there2⟩ := sortedHeap_at (vs := acc.toList) (out := (sortVals (dataKind (sortingHeap h2 h1.objs.size acc.toList) (ks.map Datum.toD)) false acc.toList acc.toList).toArray) there1
    have fresh_ : H h1.objs.size = none := I1.hok.fresh (Nat.le_refl _)
    refine wpAny_pure ⟨_, rfl, .ref h1.objs.size, upd H h1.objs.size (.lst ov), I1.laid (t' := t1) (fun b u e => (sortedHeap_old (ne1 b u e) (Heap.lt_size (old b u e))).trans (old b u e)) (Nat.le_refl _) (show ObjOk X.prog X.w _ _ _ (.lst ov) from ⟨?_, _, e', ro, there2⟩), rfl, told _ ov fresh_ po⟩
    rw [ro.length, lo]; exact size1
end

/-! ### a dict with tuple keys against {} -/
section
variable {P : Program} {w : World} {A : Around} {E : Value → Shared → Prop} {s : Shared} {a b : Addr} {es : Array DictEntry} {o1 o2 : Obj} {ep ep' : Nat}
/-- dict.__eq__ of a dict and one without rows: whether the first has none -/
theorem eq_none {R : PySem.Fin → Shared → Prop} (m1 : (a == sysModules) = false) (m2 : (b == sysModules) = false) (t1 : s.heap.get? a = some o1) (x1 : o1.ExactDict) (d1 : o1.data = .dict es ep) (t2 : s.heap.get? b = some o2) (x2 : o2.ExactDict) (d2 : o2.data = .dict #[] ep')
    (told : R (.done (.ret (.bool es.isEmpty))) s) : wpAny (model P w) A (Builtin.«dict.__eq__» ⟨[.ref a, .ref b], []⟩) R E s := by
  have n1 : s.TypeIs (.ref a) "dict" := ⟨o1, t1, x1.1⟩
  have n2 : s.TypeIs (.ref b) "dict" := ⟨o2, t2, x2.1⟩
  have c3 := PySem.F.sub_dict_dict
  delta Builtin.«dict.__eq__» Builtin.Dict.dictSlotArgs Builtin.Dict.samePairs Builtin.Dict.showsAll
  refine wpAny_bind (wpAny_bind (wpAny_notOrdered_dict n1 ?_))
  wp_walk using wpAny_dictEntries t1 d1, wpAny_dictEntries t2 d2
  cases z : es.isEmpty with
  | true =>
    rw [z] at told
    obtain rfl : es = #[] := by simpa using z
    rw [if_neg (by decide)]
    simp only [Std.Legacy.Range.forIn_eq_forIn_range']
    wp_walk using wpAny_dictEpoch t1 d1
    exact told
  | false =>
    rw [z] at told
    have full : (es.size != (#[] : Array DictEntry).size) = true := by simpa [Array.isEmpty] using z
    rw [full]
    wp_walk
    exact told
end
def rEmptyT : R2 := fun x y H Q => ∃ (a b : Addr) (kvs : List (List Key × V)), x = .ref a ∧ y = .ref b ∧ H a = some (.dT kvs) ∧ H b = some (.dK []) ∧ Q (.bl kvs.isEmpty) H
theorem op_emptyT {X : Cx} (hu : X.A.units + 1 < cLine) : OpR X (compareOp .Eq) rEmptyT := fun pins s σ H x y v u Q I rx ry ⟨a, b, kvs, ex, ey, at1, at2, told⟩ => by
  subst ex ey; cases rx; cases ry
  obtain ⟨_, m1, xs1, rel1, o1, es1, ep1, t1, x1, d1, n1, _⟩ := dt_of I.hok at1
  obtain ⟨_, m2, vs2, rel2, o2, es2, ep2, t2, x2, d2, k2, n2, _⟩ := dk_of I.hok at2
  cases rel2
  have l1 : es1.size = kvs.length := (size_of_entries n1).trans (Paired.length rel1).symm
  have l2 : es2 = #[] := by
    have := n2.length
    exact Array.eq_empty_of_size_eq_zero (by simpa using this)
  subst l2
  have e : es1.isEmpty = kvs.isEmpty := by
    rw [Bool.eq_iff_iff, List.isEmpty_iff_length_eq_zero, ← l1]
    simp [Array.isEmpty]
  have n1 : s.TypeIs (.ref a) "dict" := ⟨o1, t1, x1.1⟩
  exact wpAny_richCompare_same_room (op := .Eq) n1 ⟨o2, t2, x2.1⟩ PySem.F.slot_dict_eq (wpAny_call_entry PySem.F.slot_dict_eq n1 PySem.F.entry_dict_eq (eq_none m1 m2 t1 x1 d1 t2 x2 d2 ⟨_, rfl, (fun z => nomatch z), .bl _, H, I, rfl, e ▸ told⟩) (PySem.F.args_dict_eq_2 _ _)) (by omega)

/-! ### tables by spots, in Lean and in the heap -/
section
open PySem.W
variable {α : Type}
def getS (es : List (Spot × α)) (k : Spot) : Option α := (es.find? fun e => decide (e.1 = k)).map (·.2)
def putS (es : List (Spot × α)) (k : Spot) (a : α) : List (Spot × α) := if (getS es k).isSome = true then es.map (fun e => if e.1 = k then (e.1, a) else e) else es ++ [(k, a)]
def dropS (es : List (Spot × α)) (k : Spot) : List (Spot × α) := es.filter fun e => decide (e.1 ≠ k)
theorem getS_pos {e : Spot × α} {r : List (Spot × α)} {k : Spot} (h : e.1 = k) : getS (e :: r) k = some e.2 := by simp [getS, h]
theorem getS_neg {e : Spot × α} {r : List (Spot × α)} {k : Spot} (h : ¬ e.1 = k) : getS (e :: r) k = getS r k := by simp [getS, h]
theorem getS_mem : ∀ {es : List (Spot × α)} {k : Spot} {a : α}, getS es k = some a → (k, a) ∈ es
  | [], _, _, h => nomatch h
  | e :: r, k, a, h => by
    by_cases q : e.1 = k
    · rw [getS_pos q] at h
      obtain ⟨k', a'⟩ := e
      cases q; cases h
      exact List.mem_cons_self
    · rw [getS_neg q] at h
      exact List.mem_cons_of_mem _ (getS_mem h)
theorem getS_none : ∀ {es : List (Spot × α)} {k : Spot}, getS es k = none ↔ k ∉ es.map (·.1)
  | [], k => by simp [getS]
  | e :: r, k => by
    by_cases q : e.1 = k
    · rw [getS_pos q]; simp [q]
    · rw [getS_neg q, getS_none, List.map_cons, List.mem_cons, not_or]
      exact ⟨fun h => ⟨fun z => q z.symm, h⟩, fun h => h.2⟩
theorem getS_of : ∀ {es : List (Spot × α)} {k : Spot} {a : α}, (es.map (·.1)).Nodup → (k, a) ∈ es → getS es k = some a
  | [], _, _, _, h => nomatch h
  | e :: r, k, a, nd, h => by
    rw [List.map_cons, List.nodup_cons] at nd
    rcases List.mem_cons.mp h with z | z
    · rw [← z]; exact getS_pos rfl
    · rw [getS_neg fun q => nd.1 (by rw [q]; exact List.mem_map_of_mem z)]
      exact getS_of nd.2 z
theorem getS_some {es : List (Spot × α)} {k : Spot} (h : k ∈ es.map (·.1)) : ∃ a, getS es k = some a := by
  cases e : getS es k with
  | none => exact absurd h (getS_none.mp e)
  | some a => exact ⟨a, rfl⟩
theorem putS_keys {es : List (Spot × α)} {k : Spot} {a : α} : (putS es k a).map (·.1) = if k ∈ es.map (·.1) then es.map (·.1) else es.map (·.1) ++ [k] := by
  unfold putS
  by_cases h : k ∈ es.map (·.1)
  · obtain ⟨b, hb⟩ := getS_some h
    rw [if_pos (by rw [hb]; rfl), if_pos h, List.map_map]
    refine List.map_congr_left fun e _ => ?_
    show (if e.1 = k then (e.1, a) else e).1 = e.1
    split <;> rfl
  · rw [if_neg (by rw [getS_none.mpr h]; exact Bool.false_ne_true), if_neg h, List.map_append]; rfl
theorem putS_nodup {es : List (Spot × α)} {k : Spot} {a : α} (h : (es.map (·.1)).Nodup) : ((putS es k a).map (·.1)).Nodup := by
  rw [putS_keys]
  split
  · exact h
  · rename_i q
    rw [List.nodup_append]
    exact ⟨h, List.nodup_cons.mpr ⟨List.not_mem_nil, List.nodup_nil⟩, fun x hx y hy => by rw [List.mem_singleton.mp hy]; exact fun z => q (z ▸ hx)⟩
theorem dropS_nodup {es : List (Spot × α)} {k : Spot} (h : (es.map (·.1)).Nodup) : ((dropS es k).map (·.1)).Nodup := h.sublist (List.Sublist.map _ (List.filter_sublist ..))
theorem getS_put {es : List (Spot × α)} {k j : Spot} {a : α} : getS (putS es k a) j = if j = k then some a else getS es j := by
  unfold putS
  by_cases h : (getS es k).isSome = true
  · rw [if_pos h]
    induction es with
    | nil => cases h
    | cons e r more =>
      rw [List.map_cons]
      by_cases q : e.1 = k
      · rw [if_pos q]
        by_cases z : j = k
        · rw [if_pos z, getS_pos (by show e.1 = j; rw [q, z])]
        · rw [if_neg z, getS_neg (by show ¬ e.1 = j; rw [q]; exact fun y => z y.symm), getS_neg (by rw [q]; exact fun y => z y.symm)]
          clear more h
          induction r with
          | nil => rfl
          | cons f r more =>
            rw [List.map_cons]
            by_cases y : f.1 = k
            · rw [if_pos y, getS_neg (by show ¬ f.1 = j; rw [y]; exact fun x => z x.symm), getS_neg (by rw [y]; exact fun x => z x.symm), more]
            · rw [if_neg y]
              by_cases x : f.1 = j
              · rw [getS_pos x, getS_pos x]
              · rw [getS_neg x, getS_neg x, more]
      · rw [if_neg q]
        rw [getS_neg q] at h
        by_cases z : e.1 = j
        · rw [getS_pos z, getS_pos z, if_neg (by rw [← z]; exact q)]
        · rw [getS_neg z, getS_neg z, more h]
  · rw [if_neg h]
    have hn : getS es k = none := by simpa using h
    clear h
    induction es with
    | nil =>
      by_cases z : j = k
      · rw [if_pos z]; exact getS_pos z.symm
      · rw [if_neg z]; exact getS_neg fun y => z y.symm
    | cons e r more =>
      have q : ¬ e.1 = k := fun q => by rw [getS_pos q] at hn; cases hn
      rw [getS_neg q] at hn
      rw [List.cons_append]
      by_cases z : e.1 = j
      · rw [getS_pos z, getS_pos z, if_neg (by rw [← z]; exact q)]
      · rw [getS_neg z, getS_neg z, more hn]
theorem getS_drop {es : List (Spot × α)} {k j : Spot} : getS (dropS es k) j = if j = k then none else getS es j := by
  unfold dropS
  induction es with
  | nil => simp [getS]
  | cons e r more =>
    by_cases q : e.1 = k
    · rw [List.filter_cons_of_neg (by simp [q]), more]
      by_cases z : j = k
      · rw [if_pos z, if_pos z]
      · rw [if_neg z, if_neg z, getS_neg (by rw [q]; exact fun y => z y.symm)]
    · rw [List.filter_cons_of_pos (by simp [q])]
      by_cases z : e.1 = j
      · rw [getS_pos z, getS_pos z, if_neg (by rw [← z]; exact q)]
      · rw [getS_neg z, getS_neg z, more]
theorem dropS_none {es : List (Spot × α)} {k : Spot} (h : getS es k = none) : dropS es k = es := by
  refine List.filter_eq_self.mpr fun e he => ?_
  have := getS_none.mp h
  exact decide_eq_true fun z => this (z ▸ List.mem_map_of_mem he)
theorem dropS_mem {es : List (Spot × α)} {k : Spot} {e : Spot × α} : e ∈ dropS es k ↔ e ∈ es ∧ e.1 ≠ k := by
  unfold dropS; rw [List.mem_filter, decide_eq_true_iff]
theorem putS_len (es : List (Spot × α)) (k : Spot) (a : α) : (putS es k a).length ≤ es.length + 1 := by
  unfold putS; split
  · rw [List.length_map]; omega
  · rw [List.length_append]; exact Nat.le_refl _
theorem dropS_len (es : List (Spot × α)) (k : Spot) : (dropS es k).length ≤ es.length := List.length_filter_le _ _
/-- rows of a dict of the heap that stand for es -/
def Rows (R : V → α → Prop) (kvs : List (List Key × V)) (es : List (Spot × α)) : Prop := Paired (fun p e => p.1 = kk e.1 ∧ R p.2 e.2) kvs es
variable {R : V → α → Prop} {kvs : List (List Key × V)} {es : List (Spot × α)}
theorem Rows.get (r : Rows R kvs es) (k : Spot) : (getS es k = none ∧ valV kvs (kk k) = none) ∨ ∃ a v, getS es k = some a ∧ valV kvs (kk k) = some v ∧ R v a := by
  unfold Rows at r
  induction r with
  | nil => exact .inl ⟨rfl, rfl⟩
  | @cons p e ps es h t more =>
    obtain ⟨h1, h2⟩ := h
    by_cases q : e.1 = k
    · exact .inr ⟨e.2, p.2, getS_pos q, valV_pos (by rw [h1, q]), h2⟩
    · have q2 : ¬ p.1 = kk k := fun z => q (kk_inj (h1.symm.trans z))
      rw [getS_neg q, valV_neg q2]; exact more
theorem Rows.put (r : Rows R kvs es) (k : Spot) {v : V} {a : α} (h : R v a) : Rows R (putK kvs (kk k) v) (putS es k a) := by
  unfold putK putS
  have same_ : (kvs.any fun kv => decide (kv.1 = kk k)) = (getS es k).isSome := by
    rw [valV_any]
    rcases r.get k with ⟨a, b⟩ | ⟨a, v, e1, e2, _⟩
    · rw [a, b]; rfl
    · rw [e1, e2]; rfl
  rw [same_]
  unfold Rows at r ⊢
  split
  · clear same_
    rename_i x; clear x
    induction r with
    | nil => exact .nil
    | @cons p e ps es hr t more =>
      obtain ⟨h1, h2⟩ := hr
      rw [List.map_cons, List.map_cons]
      refine .cons ?_ more
      by_cases q : e.1 = k
      · rw [if_pos q, if_pos (by rw [h1, q])]; exact ⟨h1, h⟩
      · rw [if_neg q, if_neg (fun z => q (kk_inj (h1.symm.trans z)))]; exact ⟨h1, h2⟩
  · exact Paired.snoc r ⟨rfl, h⟩
theorem Rows.drop (r : Rows R kvs es) (k : Spot) : Rows R (dropK kvs (kk k)) (dropS es k) := by
  unfold Rows at r ⊢
  unfold dropK dropS
  induction r with
  | nil => exact .nil
  | @cons p e ps es hr t more =>
    obtain ⟨h1, h2⟩ := hr
    by_cases q : e.1 = k
    · have a : p.1 = kk k := by rw [h1, q]
      rw [List.filter_cons_of_neg (by simp [a]), List.filter_cons_of_neg (by simp [q])]; exact more
    · have a : ¬ p.1 = kk k := fun z => q (kk_inj (h1.symm.trans z))
      rw [List.filter_cons_of_pos (by simp [a]), List.filter_cons_of_pos (by simp [q])]
      exact .cons ⟨h1, h2⟩ more
theorem Rows.length (r : Rows R kvs es) : kvs.length = es.length := Paired.length r
theorem Rows.mono {R' : V → α → Prop} (r : Rows R kvs es) (h : ∀ v a, R v a → R' v a) : Rows R' kvs es := Paired.mono (fun _ _ ⟨a, b⟩ => ⟨a, h _ _ b⟩) r
theorem Rows.at (r : Rows R kvs es) {i : Nat} {row : List Key × V} (e : kvs[i]? = some row) : ∃ x, es[i]? = some x ∧ row.1 = kk x.1 ∧ R row.2 x.2 := by
  obtain ⟨x, ex, h⟩ := paired_get r e
  exact ⟨x, ex, h⟩
theorem Rows.keys (r : Rows R kvs es) : kvs.map (·.1) = (es.map (·.1)).map kk := by
  unfold Rows at r
  induction r with
  | nil => rfl
  | cons h t more => rw [List.map_cons, List.map_cons, List.map_cons, more, h.1]
end
/-- the dict at d holds es -/
def TabAt {α : Type} (H : Hp) (d : Addr) (R : V → α → Prop) (es : List (Spot × α)) : Prop := ∃ kvs, H d = some (.dT kvs) ∧ Rows R kvs es

/-! ### a queue -/
section
open PySem.W
structure QS where
  longest : Int
  ents : List (Spot × (Int × Int))
  taken : List (Spot × Option Int)
  delays : List (Spot × Int)
  count : Int
def QS.new (m : Int) : QS := ⟨m, [], [], [], 0⟩
def QS.bump (s : QS) (k : Spot) (t : Int) : QS := { s with count := s.count + 1, ents := putS s.ents k (t, s.count + 1) }
def QS.put (s : QS) (k : Spot) (t : Int) : QS := match getS s.ents k with
  | some (t0, _) => if t < t0 then s.bump k t else s
  | none => s.bump k t
def minPy (m n : Int) : Int := if n < m then n else m
def QS.add (s : QS) (k : Spot) (t : Int) : QS := match getS s.taken k with
  | some (some u) => { s with taken := putS s.taken k (some (minPy u t)) }
  | some none => { s with taken := putS s.taken k (some t) }
  | none => s.put k t
abbrev Row3 := (Int × Int) × Spot
def rowsOf (es : List (Spot × (Int × Int))) : List Row3 := es.map fun e => (e.2, e.1)
def QS.due (s : QS) (c : Int) : List Row3 := rowsOf (s.ents.filter fun e => decide (e.2.1 ≤ c))
def QS.out (s : QS) (k : Spot) : QS := { s with ents := dropS s.ents k, taken := putS s.taken k none }
def QS.first (s : QS) (c : Int) : Option Spot := match s.due c with
  | [] => none
  | x :: xs => some (minOf x xs).2
def QS.take (s : QS) (c : Int) : QS := match s.first c with
  | none => s
  | some k => s.out k
def QS.done (s : QS) (k : Spot) : QS := match getS s.taken k with
  | some (some t) => { s with taken := dropS s.taken k }.put k t
  | _ => { s with taken := dropS s.taken k }
def QS.delay (s : QS) (k : Spot) : Int := (getS s.delays k).getD 1
def QS.slow (s : QS) (k : Spot) : QS := { s with delays := putS s.delays k (minPy (2 * s.delay k) s.longest) }
def QS.retry (s : QS) (k : Spot) (c : Int) : QS := ((s.add k (c + s.delay k)).slow k).done k
def QS.forget (s : QS) (k : Spot) : QS := { s with delays := dropS s.delays k }
def QS.waiting (s : QS) : List Row3 := srtD (rowsOf s.ents)
def QS.working (s : QS) : List Spot := srtD (s.taken.map (·.1))
/-- where a queue and its dicts stand -/
structure QA where
  q : Addr
  dx : Addr
  e : Addr
  t : Addr
  d : Addr
def qF (A : QA) (l c : Int) : List (Str × V) := [("longest", .int l), ("entries", .ref A.e), ("taken", .ref A.t), ("delays", .ref A.d), ("count", .int c)]
def REnt (H : Hp) (v : V) (x : Int × Int) : Prop := ∃ p, v = .ref p ∧ H p = some (.tup [.int x.1, .int x.2])
def oI : Option Int → V
  | none => .non
  | some i => .int i
structure QAt (K : PySem.W.Frag) (H : Hp) (A : QA) (s : QS) : Prop where
  ob : H A.q = some (.ins (He.ga K "Queue") A.dx (qF A s.longest s.count))
  ents : TabAt H A.e (REnt H) s.ents
  taken : TabAt H A.t (fun v o => v = oI o) s.taken
  delays : TabAt H A.d (fun v i => v = .int i) s.delays
  et : A.e ≠ A.t
  ed : A.e ≠ A.d
  td : A.t ≠ A.d
/-- all but the queue and its dicts is as it was -/
def Off (A : QA) (H H' : Hp) : Prop := ∀ b o, H b = some o → b ≠ A.q → b ≠ A.e → b ≠ A.t → b ≠ A.d → H' b = some o
theorem Off.refl (A : QA) (H : Hp) : Off A H H := fun _ _ e _ _ _ _ => e
theorem Off.trans {A : QA} {H H1 H2 : Hp} (x : Off A H H1) (y : Off A H1 H2) : Off A H H2 := fun b o e a b' c d => y b o (x b o e a b' c d) a b' c d
theorem Off.of {A : QA} {H H1 : Hp} (x : Same H H1) : Off A H H1 := fun b o e _ _ _ _ => x b o e
/-- objects of other kinds stand -/
def plainO : HO → Bool
  | .dT _ => false
  | .ins .. => false
  | _ => true
theorem QAt.off {K : PySem.W.Frag} {H H' : Hp} {A : QA} {s : QS} (h : QAt K H A s) (x : Off A H H') {b : Addr} {o : HO} (at_ : H b = some o) (p : plainO o = true) : H' b = some o := by
  obtain ⟨k1, e1, _⟩ := h.ents
  obtain ⟨k2, e2, _⟩ := h.taken
  obtain ⟨k3, e3, _⟩ := h.delays
  refine x b o at_ ?_ ?_ ?_ ?_
  · exact ne_of at_ h.ob fun z => by rw [z] at p; cases p
  · exact ne_of at_ e1 fun z => by rw [z] at p; cases p
  · exact ne_of at_ e2 fun z => by rw [z] at p; cases p
  · exact ne_of at_ e3 fun z => by rw [z] at p; cases p
theorem QAt.sp {K : PySem.W.Frag} {H H' : Hp} {A : QA} {s : QS} (h : QAt K H A s) (x : Off A H H') {b : Addr} {k : Spot} (at_ : SpAt H b k) : SpAt H' b k := h.off x at_ rfl
/-- all of the queue's objects as they were -/
theorem QAt.keeps {K : PySem.W.Frag} {H H' : Hp} {A : QA} {s : QS} (h : QAt K H A s) (k : ∀ b o, H b = some o → H' b = some o) : QAt K H' A s := by
  obtain ⟨ob, ⟨k1, e1, r1⟩, ⟨k2, e2, r2⟩, ⟨k3, e3, r3⟩, a, b, c⟩ := h
  exact ⟨k _ _ ob, ⟨k1, k _ _ e1, r1.mono fun v x ⟨p, ev, hp⟩ => ⟨p, ev, k _ _ hp⟩⟩, ⟨k2, k _ _ e2, r2⟩, ⟨k3, k _ _ e3, r3⟩, a, b, c⟩
theorem nm_lk : (Str.ofString "longest" ≠ "entries" ∧ Str.ofString "longest" ≠ "taken" ∧ Str.ofString "longest" ≠ "delays" ∧ Str.ofString "longest" ≠ "count") ∧ (Str.ofString "entries" ≠ "taken" ∧ Str.ofString "entries" ≠ "delays" ∧ Str.ofString "entries" ≠ "count") ∧ (Str.ofString "taken" ≠ "delays" ∧ Str.ofString "taken" ≠ "count") ∧ Str.ofString "delays" ≠ "count" := by decide +kernel
theorem lu_eq {k : Str} {v : V} {r : List (Str × V)} : ((k, v) :: r).lookup k = some v := by simp [List.lookup]
theorem lu_ne {k m : Str} {v : V} {r : List (Str × V)} (h : k ≠ m) : ((k, v) :: r).lookup m = r.lookup m := by
  have : (m == k) = false := beq_eq_false_iff_ne.mpr h.symm
  simp [List.lookup, this]
section
variable {A : QA} {l c : Int}
theorem qF_longest : (qF A l c).lookup (Str.ofString "longest") = some (.int l) := lu_eq
theorem qF_entries : (qF A l c).lookup (Str.ofString "entries") = some (.ref A.e) := (lu_ne nm_lk.1.1).trans lu_eq
theorem qF_taken : (qF A l c).lookup (Str.ofString "taken") = some (.ref A.t) := (lu_ne nm_lk.1.2.1).trans ((lu_ne nm_lk.2.1.1).trans lu_eq)
theorem qF_delays : (qF A l c).lookup (Str.ofString "delays") = some (.ref A.d) := (lu_ne nm_lk.1.2.2.1).trans ((lu_ne nm_lk.2.1.2.1).trans ((lu_ne nm_lk.2.2.1.1).trans lu_eq))
theorem qF_count : (qF A l c).lookup (Str.ofString "count") = some (.int c) := (lu_ne nm_lk.1.2.2.2).trans ((lu_ne nm_lk.2.1.2.2).trans ((lu_ne nm_lk.2.2.1.2).trans ((lu_ne nm_lk.2.2.2).trans lu_eq)))
theorem pf_ne {k m : Str} {v x : V} {r : List (Str × V)} (h : k ≠ m) : putF m x ((k, v) :: r) = (k, v) :: putF m x r := if_neg h
theorem qF_put {z : Int} : putF "count" (.int z) (qF A l c) = qF A l z := by
  unfold qF
  rw [pf_ne nm_lk.1.2.2.2, pf_ne nm_lk.2.1.2.2, pf_ne nm_lk.2.2.1.2, pf_ne nm_lk.2.2.2]
  show _ :: _ :: _ :: _ :: (if (Str.ofString "count") = "count" then _ else _) = _
  rw [if_pos rfl]
theorem qF_made : putF "count" (.int c) (putF "delays" (.ref A.d) (putF "taken" (.ref A.t) (putF "entries" (.ref A.e) (putF "longest" (.int l) [])))) = qF A l c := by
  show putF "count" (.int c) (putF "delays" (.ref A.d) (putF "taken" (.ref A.t) (putF "entries" (.ref A.e) [(Str.ofString "longest", .int l)]))) = _
  rw [pf_ne nm_lk.1.1]
  show putF "count" (.int c) (putF "delays" (.ref A.d) (putF "taken" (.ref A.t) [_, (Str.ofString "entries", .ref A.e)])) = _
  rw [pf_ne nm_lk.1.2.1, pf_ne nm_lk.2.1.1]
  show putF "count" (.int c) (putF "delays" (.ref A.d) [_, _, (Str.ofString "taken", .ref A.t)]) = _
  rw [pf_ne nm_lk.1.2.2.1, pf_ne nm_lk.2.1.2.1, pf_ne nm_lk.2.2.1.1]
  show putF "count" (.int c) [_, _, _, (Str.ofString "delays", .ref A.d)] = _
  rw [pf_ne nm_lk.1.2.2.2, pf_ne nm_lk.2.1.2.2, pf_ne nm_lk.2.2.1.2, pf_ne nm_lk.2.2.2]
  rfl
end
end

/-! ### the queue's code -/
/-- a key as the store wants it -/
def okKey (k : PySem.W.Tup Str) : Bool := match k.items with
  | [a, b, c] => (userB a && userB b) && (nameV (.str c) && decide (c.length ≤ 1000))
  | _ => false
theorem okKey_of {k : PySem.W.Tup Str} (h : okKey k = true) : ∃ a b c, k.items = [a, b, c] ∧ userB a = true ∧ userB b = true ∧ nameV (.str c) = true ∧ c.length ≤ 1000 := by
  obtain ⟨items⟩ := k
  match items, h with
  | [a, b, c], h =>
    have h : ((userB a && userB b) && (nameV (.str c) && decide (c.length ≤ 1000))) = true := h
    simp only [Bool.and_eq_true, decide_eq_true_iff] at h
    exact ⟨a, b, c, rfl, h.1.1, h.1.2, h.2.1, h.2.2⟩
theorem user_short {z : Str} (h : userB z = true) : z.length ≤ 100000 := by
  have h : userL (tl z) = true := h
  unfold userL at h
  simp only [Bool.and_eq_true, decide_eq_true_iff] at h
  rw [len_tl]; omega
def sp_check_number (K : PySem.W.Frag) : Sp := fun vs H Q _ => ∃ (i : Int) (z : Str), vs = [.int i, .str z, .non] ∧ 0 ≤ i ∧ Q .non H
theorem ok_check_number {P : Program} {w : World} {K : PySem.W.Frag} {mg : Str → Option Value} {base : Heap} {fd : FuncData} (T : Txt K mg w) (F : FnP K "check_number" s_check_number [.non] fd) : FnOk P w K mg base CX0 2 (He.ga K "check_number") fd ps_check_number (sp_check_number K) := by
  obtain ⟨fd_is_integer, F_is_integer⟩ := T.d_is_integer
  have G_is_integer := ok_is_integer (P := P) (w := w) (base := base) T F_is_integer
  have k_is_integer := F_is_integer.kp
  have b_is_integer := bi_is_integer F_is_integer
  refine F.ok sc_check_number (fun vs H Q E h => ?len) (fun cdv A outer s H vs Q E hr h => ?body)
  case len => obtain ⟨i, z, rfl, h0, k⟩ := h; rfl
  case body =>
  obtain ⟨i, z, rfl, h0, k⟩ := h
  have hu := hu_of hr
  refine ⟨_, PSs.nox (pss_one (ps_if (PW.pt (pw_or (pt_not (pt_val (pe_call G_is_integer (hr.mono (by first | decide | omega)) rfl T.g_is_integer k_is_integer b_is_integer .nil pass0 (pa_cons (pv 0) pa_nil)))) (pw_or (pt_cmpR op_lt (pv 0) pe_int (nomark _)) (pw_or1 (PW.pt (pw_and (pt_cmpR op_notN (pv 2) pe_non (nomark _)) (pw_and1 (pt_cmpR op_gt (pv 0) (pv 2) (nomark _))))))))) (pss_one ps_never) pss_nil)), ?_⟩
  refine ⟨_, rfl, .int i, rfl, .inl trivial, ⟨_, rfl, iteF ?_⟩⟩
  refine ⟨_, rfl, _, _, rfl, rfl, _, rfl, ite2 (fun h => ?_) fun _ => ⟨_, rfl, rfl, _, rfl, iteF (iteF k)⟩⟩
  exact absurd (of_decide_eq_true h) (by omega)
theorem user_shrt {z : Str} (h : userB z = true) : Shrt (.str z) := fun y e => by cases e; exact user_short h
def sp_check_key (K : PySem.W.Frag) : Sp := fun vs H Q _ => ∃ (a : Addr) (k : Spot), vs = [.ref a] ∧ SpAt H a k ∧ okKey k = true ∧ ∀ H', Same H H' → Q .non H'
theorem ok_check_key {P : Program} {w : World} {K : PySem.W.Frag} {mg : Str → Option Value} {base : Heap} {fd : FuncData} (T : Txt K mg w) (F : FnP K "check_key" s_check_key [] fd) : FnOk P w K mg base CX0 53 (He.ga K "check_key") fd ps_check_key (sp_check_key K) := by
  obtain ⟨fd_is_name, F_is_name⟩ := T.d_is_name
  have G_is_name := ok_is_name (P := P) (w := w) (base := base) T F_is_name
  have k_is_name := F_is_name.kp
  have b_is_name := bi_is_name F_is_name
  obtain ⟨fd_is_user_name, F_is_user_name⟩ := T.d_is_user_name
  have G_is_user_name := ok_is_user_name (P := P) (w := w) (base := base) T F_is_user_name
  have k_is_user_name := F_is_user_name.kp
  have b_is_user_name := bi_is_user_name F_is_user_name
  refine F.ok sc_check_key (fun vs H Q E h => ?len) (fun cdv A outer s H vs Q E hr h => ?body)
  case len => obtain ⟨a, key, rfl, ha, hk, k⟩ := h; rfl
  case body =>
  obtain ⟨a, key, rfl, ha, hk, k⟩ := h
  have hu := hu_of hr
  refine ⟨_, PSs.nox (pss_cons (ps_if (PW.pt (pw_or (pt_not (pt_val (pe_callB call_isi (by rfl) T.n_isinstance (by decide +kernel) (pa_cons (pv 0) (pa_cons (pe_bltn (v := .ty "tuple") rfl T.n_tuple (by decide +kernel) rfl) pa_nil))))) (pw_or (pt_cmpR op_ne (pe_callB call_len_seq (by rfl) T.n_len (by decide +kernel) (pa_cons (pv 0) pa_nil)) pe_int (nomark _)) (pw_or (pt_not (pt_val (pe_call G_is_user_name (hr.mono (by first | decide | omega)) rfl T.g_is_user_name k_is_user_name b_is_user_name .nil pass0 (pa_cons (pe_ix ix_tup (pv 0) pe_int (fun _ _ => rfl)) pa_nil)))) (pw_or1 (pt_not (pt_val (pe_call G_is_user_name (hr.mono (by first | decide | omega)) rfl T.g_is_user_name k_is_user_name b_is_user_name .nil pass0 (pa_cons (pe_ix ix_tup (pv 0) pe_int (fun _ _ => rfl)) pa_nil))))))))) (pss_one ps_never) pss_nil)
    (pss_one (ps_if (pt_not (pt_val (pe_call G_is_name (hr.mono (by first | decide | omega)) rfl T.g_is_name k_is_name b_is_name .nil pass0 (pa_cons (pe_ix ix_tup (pv 0) pe_int (fun _ _ => rfl)) pa_nil)))) (pss_one ps_never) pss_nil))), ?_⟩
  obtain ⟨x, y, z, items_, ux, uy, nz, sz⟩ := okKey_of hk
  have ga : H a = some (.tup [.str x, .str y, .str z]) := by unfold SpAt at ha; rw [items_] at ha; exact ha
  refine ⟨_, rfl, _, _, _, _, true, rfl, .ty "tuple", .base (.tup ga), kit_ty (by decide +kernel), _, rfl, iteF ?_⟩
  refine ⟨_, rfl, a, _, rfl, .inr (SqT.of ga), rfl, _, rfl, iteF ?_⟩
  refine ⟨_, rfl, a, _, 0, .str x, rfl, rfl, SqT.of ga, atI_nat (j := 0) rfl, .str x, rfl, .inl trivial, user_shrt ux, fun H1 S1 => ?_⟩
  rw [show userV (.str x) = true from ux]
  have g1 := S1 _ _ ga
  refine ⟨_, rfl, iteF ⟨_, rfl, a, _, 1, .str y, rfl, rfl, SqT.of g1, atI_nat (j := 1) rfl, .str y, rfl, .inl trivial, user_shrt uy, fun H2 S2 => ?_⟩⟩
  rw [show userV (.str y) = true from uy]
  have g2 := S2 _ _ g1
  refine ⟨_, rfl, iteF ?_⟩
  refine ⟨_, rfl, a, _, 2, .str z, rfl, rfl, SqT.of g2, atI_nat (j := 2) rfl, .str z, rfl, .inl trivial, (fun w e => by cases e; omega), fun H3 S3 => ?_⟩
  rw [nz]
  exact ⟨_, rfl, iteF (k H3 (Same.trans' (Same.trans' S1 S2) S3))⟩
/-! the object -/
theorem QAt.cap {K : PySem.W.Frag} {H : Hp} {A : QA} {s : QS} (h : QAt K H A s) : A.q ≠ A.e ∧ A.q ≠ A.t ∧ A.q ≠ A.d := by
  obtain ⟨k1, e1, _⟩ := h.ents
  obtain ⟨k2, e2, _⟩ := h.taken
  obtain ⟨k3, e3, _⟩ := h.delays
  exact ⟨ne_of h.ob e1 (fun z => nomatch z), ne_of h.ob e2 (fun z => nomatch z), ne_of h.ob e3 (fun z => nomatch z)⟩
theorem REnt.keep {H H' : Hp} {v : V} {x : Int × Int} (r : REnt H v x) (k : ∀ p ys, H p = some (.tup ys) → H' p = some (.tup ys)) : REnt H' v x := have ⟨p, ev, hp⟩ := r; ⟨p, ev, k _ _ hp⟩
theorem tup_upd {H : Hp} {a : Addr} {u o : HO} (ha : H a = some u) (n : ∀ ys, u ≠ .tup ys) : ∀ p ys, H p = some (.tup ys) → upd H a o p = some (.tup ys) := fun p ys hp => by rw [upd_ne (ne_of hp ha fun z => n ys z.symm)]; exact hp
/-- the queue with a new count and a new time of a key -/
theorem QAt.bumped {K : PySem.W.Frag} {H : Hp} {A : QA} {s : QS} {k : Spot} {t : Int} {T : Addr} {kvs : List (List Key × V)} (h : QAt K H A s) (he : H A.e = some (.dT kvs)) (rows : Rows (REnt H) kvs s.ents) (hT : H T = none) {H1 H2 H3 : Hp}
    (e1 : H1 = upd H A.q (.ins (He.ga K "Queue") A.dx (qF A s.longest (s.count + 1)))) (e2 : H2 = upd H1 T (.tup [.int t, .int (s.count + 1)])) (e3 : H3 = upd H2 A.e (.dT (putK kvs (kk k) (.ref T)))) : QAt K H3 A (s.bump k t) ∧ Off A H H3 := by
  subst e1; subst e2; subst e3
  obtain ⟨qe, qt, qd⟩ := h.cap
  obtain ⟨k2, g2, r2⟩ := h.taken
  obtain ⟨k3, g3, r3⟩ := h.delays
  have Tq : A.q ≠ T := ne_of_none h.ob hT
  have Te : A.e ≠ T := ne_of_none he hT
  have Tt : A.t ≠ T := ne_of_none g2 hT
  have Td : A.d ≠ T := ne_of_none g3 hT
  refine ⟨⟨?_, ⟨_, upd_same, ?_⟩, ⟨k2, ?_, r2⟩, ⟨k3, ?_, r3⟩, h.et, h.ed, h.td⟩, fun b o e a1 a2 a3 a4 => ?_⟩
  · rw [upd_ne qe, upd_ne Tq, upd_same]; rfl
  · refine Rows.put (rows.mono fun v x r => r.keep fun p ys hp => ?_) k ⟨T, rfl, ?_⟩
    · rw [upd_ne (ne_of hp he fun z => nomatch z), upd_ne (ne_of_none hp hT), upd_ne (ne_of hp h.ob fun z => nomatch z)]; exact hp
    · rw [upd_ne Te.symm, upd_same]
  · rw [upd_ne h.et.symm, upd_ne Tt, upd_ne qt.symm]; exact g2
  · rw [upd_ne h.ed.symm, upd_ne Td, upd_ne qd.symm]; exact g3
  · rw [upd_ne a2, upd_ne (ne_of_none e hT), upd_ne a1]; exact e
/-- another table of times -/
theorem QAt.setT {K : PySem.W.Frag} {H : Hp} {A : QA} {s : QS} {kvs : List (List Key × V)} {es : List (Spot × Option Int)} (h : QAt K H A s) (rows : Rows (fun v o => v = oI o) kvs es) : QAt K (upd H A.t (.dT kvs)) A { s with taken := es } ∧ Off A H (upd H A.t (.dT kvs)) := by
  obtain ⟨qe, qt, qd⟩ := h.cap
  obtain ⟨k1, g1, r1⟩ := h.ents
  obtain ⟨k2, g2, r2⟩ := h.taken
  obtain ⟨k3, g3, r3⟩ := h.delays
  refine ⟨⟨by rw [upd_ne qt]; exact h.ob, ⟨k1, by rw [upd_ne h.et]; exact g1, r1.mono fun v x r => r.keep (tup_upd g2 fun _ z => nomatch z)⟩, ⟨_, upd_same, rows⟩, ⟨k3, by rw [upd_ne h.td.symm]; exact g3, r3⟩, h.et, h.ed, h.td⟩, fun b o e a1 a2 a3 a4 => by rw [upd_ne a3]; exact e⟩
theorem QAt.setD {K : PySem.W.Frag} {H : Hp} {A : QA} {s : QS} {kvs : List (List Key × V)} {es : List (Spot × Int)} (h : QAt K H A s) (rows : Rows (fun v i => v = .int i) kvs es) : QAt K (upd H A.d (.dT kvs)) A { s with delays := es } ∧ Off A H (upd H A.d (.dT kvs)) := by
  obtain ⟨qe, qt, qd⟩ := h.cap
  obtain ⟨k1, g1, r1⟩ := h.ents
  obtain ⟨k2, g2, r2⟩ := h.taken
  obtain ⟨k3, g3, r3⟩ := h.delays
  refine ⟨⟨by rw [upd_ne qd]; exact h.ob, ⟨k1, by rw [upd_ne h.ed]; exact g1, r1.mono fun v x r => r.keep (tup_upd g3 fun _ z => nomatch z)⟩, ⟨k2, by rw [upd_ne h.td]; exact g2, r2⟩, ⟨_, upd_same, rows⟩, h.et, h.ed, h.td⟩, fun b o e a1 a2 a3 a4 => by rw [upd_ne a4]; exact e⟩
theorem QAt.setE {K : PySem.W.Frag} {H : Hp} {A : QA} {s : QS} {kvs0 kvs : List (List Key × V)} {es : List (Spot × (Int × Int))} (h : QAt K H A s) (rows : Rows (REnt H) kvs es) : QAt K (upd H A.e (.dT kvs)) A { s with ents := es } ∧ Off A H (upd H A.e (.dT kvs)) := by
  obtain ⟨qe, qt, qd⟩ := h.cap
  obtain ⟨k1, g1, r1⟩ := h.ents
  obtain ⟨k2, g2, r2⟩ := h.taken
  obtain ⟨k3, g3, r3⟩ := h.delays
  refine ⟨⟨by rw [upd_ne qe]; exact h.ob, ⟨_, upd_same, rows.mono fun v x r => r.keep (tup_upd g1 fun _ z => nomatch z)⟩, ⟨k2, by rw [upd_ne h.et.symm]; exact g2, r2⟩, ⟨k3, by rw [upd_ne h.ed.symm]; exact g3, r3⟩, h.et, h.ed, h.td⟩, fun b o e a1 a2 a3 a4 => by rw [upd_ne a2]; exact e⟩
def sp_Queue_put (K : PySem.W.Frag) : Sp := fun vs H Q _ => ∃ (A : QA) (s : QS) (kb : Addr) (k : Spot) (t : Int), vs = [.ref A.q, .ref kb, .int t] ∧ QAt K H A s ∧ SpAt H kb k ∧ s.ents.length < 100000 ∧ ∀ H', Off A H H' → QAt K H' A (s.put k t) → Q .non H'
theorem SpAt.key {H : Hp} {a : Addr} {t : Spot} (h : SpAt H a t) : H a = some (.tup ((kk t).map kV)) := by rw [kk_kV]; exact h
theorem ok_Queue_put {P : Program} {w : World} {K : PySem.W.Frag} {mg : Str → Option Value} {base : Heap} {fd : FuncData} (T : Txt K mg w) (F : FunD K "put" "Queue.put" (defArgs s_Queue_put) (defBody s_Queue_put) (defScope s_Queue_put) [] [] (He.fAd K ("Queue", some "put")) fd) : FnOk P w K mg base CX0 1 (He.fAd K ("Queue", some "put")) fd ps_Queue_put (sp_Queue_put K) := by
  refine F.ok sc_Queue_put (fun vs H Q E h => ?len) (fun cdv A outer s H vs Q E hr h => ?body)
  case len => obtain ⟨A, s, kb, key, t, rfl, hq, hk, few, k⟩ := h; rfl
  case body =>
  obtain ⟨A, s, kb, key, t, rfl, hq, hk, few, k⟩ := h
  have hu := hu_of hr
  refine ⟨_, PSs.nox (pss_one (ps_if (PW.pt (pw_or (pt_cmp (pc_dnotin hu (pv 1) (pe_fld (pv 0) rfl))) (pw_or1 (pt_cmpR op_lt (pv 2) (pe_ix ix_tup (pe_dget hu (pe_fld (pv 0) rfl) (pv 1) (fun _ _ => rfl)) pe_int (fun _ _ => rfl)) (nomark _))))) (pss_cons (ps_fldaug (pv 0) pe_int in_add)
      (pss_one (ps_dput hu (pe_fld (pv 0) rfl) (pv 1) (pe_tup (pa_cons (pv 2) (pa_cons (pe_fld (pv 0) rfl) pa_nil))) rfl))) pss_nil)), ?_⟩
  have hu := hu_of hr
  obtain ⟨kvs, ge, rows⟩ := hq.ents
  have get_ := DGet.t ge hk.key
  have bump_ : QS.put s key t = s.bump key t → tSeq (sFldAug K (tVar 0) (tC (V.int 1)) rAdd "count") (sDPut (tFld K (tVar 0) "entries") (tVar 1) (tTup (tCons (tVar 2) (tCons (tFld K (tVar 0) "count") tNil)))) { nx := fun x H' => Q V.non H', rt := Q } (L2.start N_Queue_put [V.ref A.q, V.ref kb, V.int t]) H := fun e => by
    refine ⟨_, rfl, A.q, _, A.dx, _, _, rfl, hq.ob, T.cl_Queue, T.no_Queue_count, qF_count, _, _, rfl, rfl, A.dx, _, hq.ob, (by show 5 < 1000; decide), ?_⟩
    rw [qF_put]
    generalize e1 : upd H A.q (.ins (He.ga K "Queue") A.dx (qF A s.longest (s.count + 1))) = H1
    have ob1 : H1 A.q = some (.ins (He.ga K "Queue") A.dx (qF A s.longest (s.count + 1))) := e1 ▸ upd_same
    have ge1 : H1 A.e = some (.dT kvs) := by rw [← e1, upd_ne hq.cap.1.symm]; exact ge
    have hk1 : SpAt H1 kb key := by unfold SpAt; rw [← e1, upd_ne (ne_of hk hq.ob fun z => nomatch z)]; exact hk
    refine ⟨_, rfl, _, rfl, A.q, _, A.dx, _, _, rfl, ob1, T.cl_Queue, T.no_Queue_count, qF_count, smallN (by show 2 ≤ 1000; decide), fun p hp => ?_⟩
    have hpH : H p = none := by
      by_cases z : p = A.q
      · rw [z] at hp; rw [ob1] at hp; cases hp
      · rw [← e1, upd_ne z] at hp; exact hp
    generalize e2 : upd H1 p (.tup [.int t, .int (s.count + 1)]) = H2
    have ob2 : H2 A.q = some (.ins (He.ga K "Queue") A.dx (qF A s.longest (s.count + 1))) := by rw [← e2, upd_ne (ne_of_none ob1 hp)]; exact ob1
    have ge2 : H2 A.e = some (.dT kvs) := by rw [← e2, upd_ne (ne_of_none ge1 hp)]; exact ge1
    have hk2 : SpAt H2 kb key := by unfold SpAt; rw [← e2, upd_ne (ne_of_none hk1 hp)]; exact hk1
    refine ⟨_, rfl, A.q, _, A.dx, _, _, rfl, ob2, T.cl_Queue, T.no_Queue_entries, qF_entries, _, rfl, A.e, _, rfl, DPut.t ge2 hk2.key (by rw [rows.length]; exact small5' (by omega)), ?_⟩
    obtain ⟨q3, o3⟩ := hq.bumped (k := key) (t := t) ge rows hpH e1.symm e2.symm rfl
    exact k _ o3 (e ▸ q3)
  refine ⟨_, rfl, _, rfl, A.q, _, A.dx, _, _, rfl, hq.ob, T.cl_Queue, T.no_Queue_entries, qF_entries, A.e, _, rfl, get_, ?_⟩
  rcases rows.get key with ⟨n1, n2⟩ | ⟨x, v, e1, e2, p, rfl, hp⟩
  · rw [n2]
    exact ⟨_, rfl, iteT (bump_ (by unfold QS.put; rw [n1]))⟩
  · rw [e2] at get_ ⊢
    refine ⟨_, rfl, iteF ⟨_, rfl, _, rfl, A.q, _, A.dx, _, _, rfl, hq.ob, T.cl_Queue, T.no_Queue_entries, qF_entries, _, rfl, A.e, _, rfl, get_, ?_⟩⟩
    refine ⟨p, _, 0, .int x.1, rfl, rfl, SqT.of hp, atI_nat (j := 0) rfl, _, _, rfl, rfl, _, rfl, ite2 (fun h => ?_) (fun h => ?_)⟩
    · exact bump_ (by unfold QS.put; rw [e1]; exact if_pos (of_decide_eq_true h))
    · exact k H (Off.refl A H) (by unfold QS.put; rw [e1]; show QAt K H A (if t < x.1 then _ else _); rw [if_neg (fun z => h (decide_eq_true z))]; exact hq)

/-! ### add, check_taken, done, forget, delay -/
def qNames : List Str := ["longest", "entries", "taken", "delays", "count"]
theorem qF_no {A : QA} {l c : Int} {m : Str} (h : (qNames.all fun n => decide (n ≠ m)) = true) : (qF A l c).lookup m = none := by
  simp only [qNames, List.all_cons, List.all_nil, Bool.and_eq_true, decide_eq_true_iff] at h
  unfold qF
  rw [lu_ne h.1, lu_ne h.2.1, lu_ne h.2.2.1, lu_ne h.2.2.2.1, lu_ne h.2.2.2.2.1]
  rfl
theorem QAt.same {K : PySem.W.Frag} {H H' : Hp} {A : QA} {s : QS} (h : QAt K H A s) (k : Same H H') : QAt K H' A s := h.keeps k
theorem SpAt.same {H H' : Hp} {a : Addr} {t : Spot} (h : SpAt H a t) (k : Same H H') : SpAt H' a t := k _ _ h
structure Small (s : QS) : Prop where
  e : s.ents.length < 100000
  t : s.taken.length < 100000
  d : s.delays.length < 100000
def sp_Queue_add (K : PySem.W.Frag) : Sp := fun vs H Q _ => ∃ (A : QA) (s : QS) (kb : Addr) (k : Spot) (t : Int), vs = [.ref A.q, .ref kb, .int t] ∧ QAt K H A s ∧ SpAt H kb k ∧ okKey k = true ∧ 0 ≤ t ∧ Small s ∧ ∀ H', Off A H H' → QAt K H' A (s.add k t) → Q .non H'
theorem ok_Queue_add {P : Program} {w : World} {K : PySem.W.Frag} {mg : Str → Option Value} {base : Heap} {fd : FuncData} (T : Txt K mg w) (F : FunD K "add" "Queue.add" (defArgs s_Queue_add) (defBody s_Queue_add) (defScope s_Queue_add) [] [] (He.fAd K ("Queue", some "add")) fd) : FnOk P w K mg base CX0 54 (He.fAd K ("Queue", some "add")) fd ps_Queue_add (sp_Queue_add K) := by
  obtain ⟨fd_check_key, F_check_key⟩ := T.d_check_key
  have G_check_key := ok_check_key (P := P) (w := w) (base := base) T F_check_key
  have k_check_key := F_check_key.kp
  have b_check_key := bi_check_key F_check_key
  obtain ⟨fd_check_number, F_check_number⟩ := T.d_check_number
  have G_check_number := ok_check_number (P := P) (w := w) (base := base) T F_check_number
  have k_check_number := F_check_number.kp
  obtain ⟨ds_check_number, hd_check_number, b_check_number⟩ := bi_check_number F_check_number
  obtain ⟨fd_Queue_put, F_Queue_put⟩ := T.d_Queue_put
  have G_Queue_put := ok_Queue_put (P := P) (w := w) (base := base) T F_Queue_put
  have k_Queue_put := F_Queue_put.kp
  have b_Queue_put := bi_Queue_put F_Queue_put
  refine F.ok sc_Queue_add (fun vs H Q E h => ?len) (fun cdv A outer s H vs Q E hr h => ?body)
  case len => obtain ⟨A, s, kb, key, t, rfl, hq0, hk0, hok, ht, few, k⟩ := h; rfl
  case body =>
  obtain ⟨A, s, kb, key, t, rfl, hq0, hk0, hok, ht, few, k⟩ := h
  have hu := hu_of hr
  refine ⟨_, PSs.nox (pss_cons (ps_expr (pe_call G_check_key (hr.mono (by first | decide | omega)) rfl T.g_check_key k_check_key b_check_key .nil pass0 (pa_cons (pv 1) pa_nil)))
    (pss_cons (ps_expr (pe_call G_check_number (hr.mono (by first | decide | omega)) rfl T.g_check_number k_check_number b_check_number hd_check_number pass0 (pa_cons (pv 2) (pa_cons pe_str pa_nil))))
    (pss_cons (ps_if (pt_cmp (pc_dnotin hu (pv 1) (pe_fld (pv 0) rfl))) (pss_cons (ps_expr (pe_meth (pv 0) T.cl_Queue T.m_Queue_put G_Queue_put (hr.mono (by first | decide | omega)) b_Queue_put .nil pass0 (pa_cons (pv 1) (pa_cons (pv 2) pa_nil))))
      (pss_one ps_retN)) pss_nil)
    (pss_cons (ps_set (i := 3) sc_Queue_add.nd rfl (Or.inl rfl) (pe_dget hu (pe_fld (pv 0) rfl) (pv 1) (fun _ _ => rfl)))
    (pss_one (ps_dput hu (pe_fld (pv 0) rfl) (pv 1) (pe_ifExp (pt_cmpR op_isN (pv 3) pe_non (nomark _)) (pv 2) (pe_callB (call_min2 rfl) (by rfl) T.n_min (by decide +kernel) (pa_cons (pv 3) (pa_cons (pv 2) pa_nil)))) rfl)))))), ?_⟩
  have hu := hu_of hr
  refine ⟨_, rfl, kb, key, rfl, hk0, hok, fun H1 S1 => ⟨_, rfl, t, _, rfl, ht, ?_⟩⟩
  have hq := hq0.same S1
  have hk := hk0.same S1
  have O1 : Off A H H1 := Off.of S1
  obtain ⟨kvs, gt, rows⟩ := hq.taken
  have get_ := DGet.t gt hk.key
  refine ⟨_, rfl, _, rfl, A.q, _, A.dx, _, _, rfl, hq.ob, T.cl_Queue, T.no_Queue_taken, qF_taken, A.t, _, rfl, get_, ?_⟩
  rcases rows.get key with ⟨n1, n2⟩ | ⟨x, v, e1, e2, rfl⟩
  · rw [n2]
    refine ⟨_, rfl, iteT ⟨_, rfl, A.q, A.dx, _, rfl, hq.ob, qF_no (by decide +kernel), _, rfl, _, rfl, A, s, kb, key, t, rfl, hq, hk, few.e, fun H2 O2 q2 => ?_⟩⟩
    exact k H2 (O1.trans O2) (by unfold QS.add; rw [n1]; exact q2)
  · rw [e2] at get_ ⊢
    refine ⟨_, rfl, iteF ⟨_, rfl, A.q, _, A.dx, _, _, rfl, hq.ob, T.cl_Queue, T.no_Queue_taken, qF_taken, _, rfl, A.t, _, rfl, get_, ?_⟩⟩
    have fin : ∀ o : Option Int, QS.add s key t = { s with taken := putS s.taken key o } → ∃ H2, DPut H1 A.t (.ref kb) (oI o) H2 ∧ Q .non H2 := fun o e => by
      refine ⟨_, DPut.t gt hk.key (by rw [rows.length]; exact small5' (by have := few.t; omega)), ?_⟩
      obtain ⟨q3, o3⟩ := hq.setT (rows.put key (v := oI o) (a := o) rfl)
      exact k _ (O1.trans o3) (e ▸ q3)
    cases x with
    | none =>
      refine ⟨_, rfl, rfl, _, rfl, iteT ⟨_, rfl, ?_⟩⟩
      obtain ⟨H2, p, q⟩ := fin (some t) (by unfold QS.add; rw [e1])
      exact ⟨_, rfl, A.q, _, A.dx, _, _, rfl, hq.ob, T.cl_Queue, T.no_Queue_taken, qF_taken, _, rfl, A.t, H2, rfl, p, q⟩
    | some u =>
      refine ⟨_, rfl, rfl, _, rfl, iteF ⟨_, rfl, _, rfl, _, _, rfl, ?_⟩⟩
      obtain ⟨H2, p, q⟩ := fin (some (minPy u t)) (by unfold QS.add; rw [e1])
      exact ⟨_, rfl, A.q, _, A.dx, _, _, rfl, hq.ob, T.cl_Queue, T.no_Queue_taken, qF_taken, _, rfl, A.t, H2, rfl, p, q⟩
def sp_Queue_check_taken (K : PySem.W.Frag) : Sp := fun vs H Q _ => ∃ (A : QA) (s : QS) (kb : Addr) (k : Spot), vs = [.ref A.q, .ref kb] ∧ QAt K H A s ∧ SpAt H kb k ∧ okKey k = true ∧ (getS s.taken k).isSome = true ∧ ∀ H', Same H H' → Q .non H'
theorem ok_Queue_check_taken {P : Program} {w : World} {K : PySem.W.Frag} {mg : Str → Option Value} {base : Heap} {fd : FuncData} (T : Txt K mg w) (F : FunD K "check_taken" "Queue.check_taken" (defArgs s_Queue_check_taken) (defBody s_Queue_check_taken) (defScope s_Queue_check_taken) [] [] (He.fAd K ("Queue", some "check_taken")) fd) : FnOk P w K mg base CX0 54 (He.fAd K ("Queue", some "check_taken")) fd ps_Queue_check_taken (sp_Queue_check_taken K) := by
  obtain ⟨fd_check_key, F_check_key⟩ := T.d_check_key
  have G_check_key := ok_check_key (P := P) (w := w) (base := base) T F_check_key
  have k_check_key := F_check_key.kp
  have b_check_key := bi_check_key F_check_key
  refine F.ok sc_Queue_check_taken (fun vs H Q E h => ?len) (fun cdv A outer s H vs Q E hr h => ?body)
  case len => obtain ⟨A, s, kb, key, rfl, hq0, hk0, hok, there, k⟩ := h; rfl
  case body =>
  obtain ⟨A, s, kb, key, rfl, hq0, hk0, hok, there, k⟩ := h
  have hu := hu_of hr
  refine ⟨_, PSs.nox (pss_cons (ps_expr (pe_call G_check_key (hr.mono (by first | decide | omega)) rfl T.g_check_key k_check_key b_check_key .nil pass0 (pa_cons (pv 1) pa_nil)))
    (pss_one (ps_if (pt_cmp (pc_dnotin hu (pv 1) (pe_fld (pv 0) rfl))) (pss_one ps_never) pss_nil))), ?_⟩
  have hu := hu_of hr
  refine ⟨_, rfl, kb, key, rfl, hk0, hok, fun H1 S1 => ?_⟩
  have hq := hq0.same S1
  have hk := hk0.same S1
  obtain ⟨kvs, gt, rows⟩ := hq.taken
  refine ⟨_, rfl, _, rfl, A.q, _, A.dx, _, _, rfl, hq.ob, T.cl_Queue, T.no_Queue_taken, qF_taken, A.t, _, rfl, DGet.t gt hk.key, ?_⟩
  rcases rows.get key with ⟨n1, n2⟩ | ⟨x, v, e1, e2, rfl⟩
  · rw [n1] at there; cases there
  · rw [e2]
    exact ⟨_, rfl, iteF (k H1 S1)⟩
def sp_Queue_done (K : PySem.W.Frag) : Sp := fun vs H Q _ => ∃ (A : QA) (s : QS) (kb : Addr) (k : Spot), vs = [.ref A.q, .ref kb] ∧ QAt K H A s ∧ SpAt H kb k ∧ okKey k = true ∧ (getS s.taken k).isSome = true ∧ Small s ∧ ∀ H', Off A H H' → QAt K H' A (s.done k) → Q .non H'
theorem ok_Queue_done {P : Program} {w : World} {K : PySem.W.Frag} {mg : Str → Option Value} {base : Heap} {fd : FuncData} (T : Txt K mg w) (F : FunD K "done" "Queue.done" (defArgs s_Queue_done) (defBody s_Queue_done) (defScope s_Queue_done) [] [] (He.fAd K ("Queue", some "done")) fd) : FnOk P w K mg base CX0 55 (He.fAd K ("Queue", some "done")) fd ps_Queue_done (sp_Queue_done K) := by
  obtain ⟨fd_Queue_check_taken, F_Queue_check_taken⟩ := T.d_Queue_check_taken
  have G_Queue_check_taken := ok_Queue_check_taken (P := P) (w := w) (base := base) T F_Queue_check_taken
  have k_Queue_check_taken := F_Queue_check_taken.kp
  have b_Queue_check_taken := bi_Queue_check_taken F_Queue_check_taken
  obtain ⟨fd_Queue_put, F_Queue_put⟩ := T.d_Queue_put
  have G_Queue_put := ok_Queue_put (P := P) (w := w) (base := base) T F_Queue_put
  have k_Queue_put := F_Queue_put.kp
  have b_Queue_put := bi_Queue_put F_Queue_put
  refine F.ok sc_Queue_done (fun vs H Q E h => ?len) (fun cdv A outer s H vs Q E hr h => ?body)
  case len => obtain ⟨A, s, kb, key, rfl, hq0, hk0, hok, there, few, k⟩ := h; rfl
  case body =>
  obtain ⟨A, s, kb, key, rfl, hq0, hk0, hok, there, few, k⟩ := h
  have hu := hu_of hr
  refine ⟨_, PSs.nox (pss_cons (ps_expr (pe_meth (pv 0) T.cl_Queue T.m_Queue_check_taken G_Queue_check_taken (hr.mono (by first | decide | omega)) b_Queue_check_taken .nil pass0 (pa_cons (pv 1) pa_nil)))
    (pss_cons (ps_set (i := 2) sc_Queue_done.nd rfl (Or.inl rfl) (pe_bm PySem.F.plainAttrs_dict PySem.F.slot_dict_pop PySem.F.type_dict_pop (mt_pop1T hu) (pe_fld (pv 0) rfl) (pa_cons (pv 1) pa_nil)))
    (pss_one (ps_if (pt_cmpR op_notN (pv 2) pe_non (nomark _)) (pss_one (ps_expr (pe_meth (pv 0) T.cl_Queue T.m_Queue_put G_Queue_put (hr.mono (by first | decide | omega)) b_Queue_put .nil pass0 (pa_cons (pv 1) (pa_cons (pv 2) pa_nil))))) pss_nil)))), ?_⟩
  have hu := hu_of hr
  refine ⟨_, rfl, A.q, A.dx, _, rfl, hq0.ob, qF_no (by decide +kernel), _, rfl, A, s, kb, key, rfl, hq0, hk0, hok, there, fun H1 S1 => ?_⟩
  have hq := hq0.same S1
  have hk := hk0.same S1
  have O1 : Off A H H1 := Off.of S1
  obtain ⟨kvs, gt, rows⟩ := hq.taken
  refine ⟨_, rfl, A.q, _, A.dx, _, _, rfl, hq.ob, T.cl_Queue, T.no_Queue_taken, qF_taken, .inr (.inr (.inl ⟨rfl, .inr ⟨_, gt⟩⟩)), _, rfl, ?_⟩
  rcases rows.get key with ⟨n1, n2⟩ | ⟨x, v, e1, e2, rfl⟩
  · rw [n1] at there; cases there
  refine ⟨A.t, kb, kvs, kk key, _, rfl, rfl, gt, hk.key, e2, ?_⟩
  obtain ⟨q2, o2⟩ := hq.setT (rows.drop key)
  have hk2 : SpAt (upd H1 A.t (.dT (dropK kvs (kk key)))) kb key := hq.sp o2 hk
  generalize upd H1 A.t (.dT (dropK kvs (kk key))) = H2 at q2 o2 hk2 ⊢
  cases x with
  | none => exact ⟨_, rfl, rfl, _, rfl, iteF (k H2 (O1.trans o2) (by unfold QS.done; rw [e1]; exact q2))⟩
  | some u =>
    refine ⟨_, rfl, rfl, _, rfl, iteT ⟨_, rfl, A.q, A.dx, _, rfl, q2.ob, qF_no (by decide +kernel), _, rfl, _, rfl, A, _, kb, key, u, rfl, q2, hk2, few.e, fun H3 O3 q3 => ?_⟩⟩
    exact k H3 ((O1.trans o2).trans O3) (by unfold QS.done; rw [e1]; exact q3)
def sp_Queue_forget (K : PySem.W.Frag) : Sp := fun vs H Q _ => ∃ (A : QA) (s : QS) (kb : Addr) (k : Spot), vs = [.ref A.q, .ref kb] ∧ QAt K H A s ∧ SpAt H kb k ∧ okKey k = true ∧ ∀ H', Off A H H' → QAt K H' A (s.forget k) → Q .non H'
theorem ok_Queue_forget {P : Program} {w : World} {K : PySem.W.Frag} {mg : Str → Option Value} {base : Heap} {fd : FuncData} (T : Txt K mg w) (F : FunD K "forget" "Queue.forget" (defArgs s_Queue_forget) (defBody s_Queue_forget) (defScope s_Queue_forget) [] [] (He.fAd K ("Queue", some "forget")) fd) : FnOk P w K mg base CX0 54 (He.fAd K ("Queue", some "forget")) fd ps_Queue_forget (sp_Queue_forget K) := by
  obtain ⟨fd_check_key, F_check_key⟩ := T.d_check_key
  have G_check_key := ok_check_key (P := P) (w := w) (base := base) T F_check_key
  have k_check_key := F_check_key.kp
  have b_check_key := bi_check_key F_check_key
  refine F.ok sc_Queue_forget (fun vs H Q E h => ?len) (fun cdv A outer s H vs Q E hr h => ?body)
  case len => obtain ⟨A, s, kb, key, rfl, hq0, hk0, hok, k⟩ := h; rfl
  case body =>
  obtain ⟨A, s, kb, key, rfl, hq0, hk0, hok, k⟩ := h
  have hu := hu_of hr
  refine ⟨_, PSs.nox (pss_cons (ps_expr (pe_call G_check_key (hr.mono (by first | decide | omega)) rfl T.g_check_key k_check_key b_check_key .nil pass0 (pa_cons (pv 1) pa_nil)))
    (pss_one (ps_expr (pe_bm PySem.F.plainAttrs_dict PySem.F.slot_dict_pop PySem.F.type_dict_pop (L2.DX.mt_popT hu) (pe_fld (pv 0) rfl) (pa_cons (pv 1) (pa_cons pe_non pa_nil)))))), ?_⟩
  have hu := hu_of hr
  refine ⟨_, rfl, kb, key, rfl, hk0, hok, fun H1 S1 => ?_⟩
  have hq := hq0.same S1
  have hk := hk0.same S1
  have O1 : Off A H H1 := Off.of S1
  obtain ⟨kvs, gd, rows⟩ := hq.delays
  refine ⟨_, rfl, A.q, _, A.dx, _, _, rfl, hq.ob, T.cl_Queue, T.no_Queue_delays, qF_delays, .inr (.inr (.inl ⟨rfl, .inr ⟨_, gd⟩⟩)), _, rfl, A.d, kvs, kk key, kb, .non, rfl, rfl, gd, hk.key, fun v ev => ?_, fun e => ?_⟩
  · obtain ⟨q2, o2⟩ := hq.setD (rows.drop key)
    exact k _ (O1.trans o2) q2
  · rcases rows.get key with ⟨n1, n2⟩ | ⟨x, v, e1, e2, rfl⟩
    · exact k _ O1 (by unfold QS.forget; rw [dropS_none n1]; exact hq)
    · rw [e2] at e; cases e
def sp_Queue_delay (K : PySem.W.Frag) : Sp := fun vs H Q _ => ∃ (A : QA) (s : QS) (kb : Addr) (k : Spot), vs = [.ref A.q, .ref kb] ∧ QAt K H A s ∧ SpAt H kb k ∧ okKey k = true ∧ ∀ H', Same H H' → Q (.int (s.delay k)) H'
theorem ok_Queue_delay {P : Program} {w : World} {K : PySem.W.Frag} {mg : Str → Option Value} {base : Heap} {fd : FuncData} (T : Txt K mg w) (F : FunD K "delay" "Queue.delay" (defArgs s_Queue_delay) (defBody s_Queue_delay) (defScope s_Queue_delay) [] [] (He.fAd K ("Queue", some "delay")) fd) : FnOk P w K mg base CX0 54 (He.fAd K ("Queue", some "delay")) fd ps_Queue_delay (sp_Queue_delay K) := by
  obtain ⟨fd_check_key, F_check_key⟩ := T.d_check_key
  have G_check_key := ok_check_key (P := P) (w := w) (base := base) T F_check_key
  have k_check_key := F_check_key.kp
  have b_check_key := bi_check_key F_check_key
  refine F.ok sc_Queue_delay (fun vs H Q E h => ?len) (fun cdv A outer s H vs Q E hr h => ?body)
  case len => obtain ⟨A, s, kb, key, rfl, hq0, hk0, hok, k⟩ := h; rfl
  case body =>
  obtain ⟨A, s, kb, key, rfl, hq0, hk0, hok, k⟩ := h
  have hu := hu_of hr
  refine ⟨_, PSs.nox (pss_cons (ps_expr (pe_call G_check_key (hr.mono (by first | decide | omega)) rfl T.g_check_key k_check_key b_check_key .nil pass0 (pa_cons (pv 1) pa_nil)))
    (pss_one (ps_ret (pe_dget2 hu (pe_fld (pv 0) rfl) (pv 1) pe_int ⟨rfl, rfl, rfl, rfl⟩)))), ?_⟩
  have hu := hu_of hr
  refine ⟨_, rfl, kb, key, rfl, hk0, hok, fun H1 S1 => ?_⟩
  have hq := hq0.same S1
  have hk := hk0.same S1
  obtain ⟨kvs, gd, rows⟩ := hq.delays
  refine ⟨_, rfl, A.q, _, A.dx, _, _, rfl, hq.ob, T.cl_Queue, T.no_Queue_delays, qF_delays, A.d, rfl, .inr ⟨kvs, .inl gd⟩, _, rfl, _, DGet.t gd hk.key, ?_⟩
  have q := k H1 S1
  unfold QS.delay at q
  rcases rows.get key with ⟨n1, n2⟩ | ⟨x, v, e1, e2, rfl⟩
  · rw [n2]; rw [n1] at q; exact q
  · rw [e2]; rw [e1] at q; exact q

/-! ### rows of a queue as objects -/
section
open PySem.W
def RowAt (H : Hp) (p : Addr) (r : Row3) : Prop := ∃ x q, H p = some (.tup [.ref x, .ref q]) ∧ H x = some (.tup [.int r.1.1, .int r.1.2]) ∧ SpAt H q r.2
def RowsAt (H : Hp) (D : Addr) (rs : List Row3) : Prop := ∃ ps : List Addr, H D = some (.lst (ps.map V.ref)) ∧ Paired (RowAt H) ps rs
theorem RowAt.keep {H H' : Hp} {p : Addr} {r : Row3} (h : RowAt H p r) (k : ∀ b ys, H b = some (.tup ys) → H' b = some (.tup ys)) : RowAt H' p r := have ⟨x, q, a, b, c⟩ := h; ⟨x, q, k _ _ a, k _ _ b, k _ _ c⟩
theorem RowAt.dp {K : PySem.W.Frag} {H : Hp} {p : Addr} {r : Row3} (h : RowAt H p r) : Dp K H (.ref p) (Datum.toD r) :=
  have ⟨_, _, a, b, c⟩ := h
  .tup (SqT.of a) (.cons (.tup (SqT.of b) (.cons (.int _) (.cons (.int _) .nil))) (.cons c.dp .nil))
theorem rows_dpA {K : PySem.W.Frag} {H : Hp} {ps : List Addr} {rs : List Row3} (h : Paired (RowAt H) ps rs) : DpA K H (ps.map V.ref) rs := by
  induction h with
  | nil => exact .nil
  | cons r _ more => exact .cons r.dp more
theorem pair_len {α β : Type} {F : α → β → Prop} {xs : List α} {ys : List β} (h : Paired F xs ys) : xs.length = ys.length := Paired.length h
theorem pair_mono {α β : Type} {F G : α → β → Prop} {xs : List α} {ys : List β} (h : Paired F xs ys) (k : ∀ x y, F x y → G x y) : Paired G xs ys := Paired.mono k h
theorem rowsOf_snoc (es : List (Spot × (Int × Int))) (e : Spot × (Int × Int)) : rowsOf (es ++ [e]) = rowsOf es ++ [(e.2, e.1)] := by unfold rowsOf; rw [List.map_append]; rfl
def dueL (c : Int) (es : List (Spot × (Int × Int))) : List Row3 := rowsOf (es.filter fun e => decide (e.2.1 ≤ c))
theorem dueL_snoc (c : Int) (es : List (Spot × (Int × Int))) (e : Spot × (Int × Int)) : dueL c (es ++ [e]) = dueL c es ++ (if e.2.1 ≤ c then [(e.2, e.1)] else []) := by
  unfold dueL
  rw [List.filter_append, List.filter_cons, List.filter_nil]
  by_cases h : e.2.1 ≤ c
  · rw [if_pos (decide_eq_true h), if_pos h, rowsOf_snoc]
  · rw [if_neg (by simpa using h), if_neg h, List.append_nil, List.append_nil]
theorem dueL_len (c : Int) (es : List (Spot × (Int × Int))) : (dueL c es).length ≤ es.length := by unfold dueL rowsOf; rw [List.length_map]; exact List.length_filter_le _ _
theorem dueL_mem {c : Int} {es : List (Spot × (Int × Int))} {r : Row3} : r ∈ dueL c es ↔ (r.2, r.1) ∈ es ∧ r.1.1 ≤ c := by
  unfold dueL rowsOf
  rw [List.mem_map]
  constructor
  · rintro ⟨e, he, rfl⟩
    have := List.mem_filter.mp he
    exact ⟨this.1, of_decide_eq_true this.2⟩
  · rintro ⟨a, b⟩
    exact ⟨(r.2, r.1), List.mem_filter.mpr ⟨a, decide_eq_true b⟩, rfl⟩
/-- a lock's end: the dict is back, all else as the turns left it -/
theorem unlock_same {H H' : Hp} {d : Addr} {u : HO} {od : Obj} (at_ : H d = some u) (s : Same (upd H d (.frz od u)) H') : Same H (upd H' d u) := fun b o hb => by
  by_cases e : b = d
  · rw [e, upd_same]; rw [e, at_] at hb; exact hb
  · rw [upd_ne e]; exact s _ _ (by rw [upd_ne e]; exact hb)
theorem lock_tup {H : Hp} {d : Addr} {o u : HO} (at_ : H d = some u) (n : ∀ ys, u ≠ .tup ys) {b : Addr} {ys : List V} (h : H b = some (.tup ys)) : upd H d o b = some (.tup ys) := (upd_ne (ne_of h at_ fun z => n ys z.symm)).trans h
end
def sp_Queue_take (K : PySem.W.Frag) : Sp := fun vs H Q _ => ∃ (A : QA) (s : QS) (c : Int), vs = [.ref A.q, .int c] ∧ QAt K H A s ∧ 0 ≤ c ∧ Small s ∧
  ∀ (v : V) (H' : Hp), Off A H H' → QAt K H' A (s.take c) → (match s.first c with | none => v = .non | some k => ∃ b, v = .ref b ∧ SpAt H' b k) → Q v H'
theorem ok_Queue_take {P : Program} {w : World} {K : PySem.W.Frag} {mg : Str → Option Value} {base : Heap} {fd : FuncData} (T : Txt K mg w) (F : FunD K "take" "Queue.take" (defArgs s_Queue_take) (defBody s_Queue_take) (defScope s_Queue_take) [] [] (He.fAd K ("Queue", some "take")) fd) : FnOk P w K mg base CX0 3 (He.fAd K ("Queue", some "take")) fd ps_Queue_take (sp_Queue_take K) := by
  obtain ⟨fd_check_number, F_check_number⟩ := T.d_check_number
  have G_check_number := ok_check_number (P := P) (w := w) (base := base) T F_check_number
  have k_check_number := F_check_number.kp
  obtain ⟨ds_check_number, hd_check_number, b_check_number⟩ := bi_check_number F_check_number
  refine F.ok sc_Queue_take (fun vs H Q E h => ?len) (fun cdv A outer s H vs Q E hr h => ?body)
  case len => obtain ⟨A, s, c, rfl, hq, hc, few, k⟩ := h; rfl
  case body =>
  obtain ⟨A, s, c, rfl, hq, hc, few, k⟩ := h
  have hu := hu_of hr
  refine ⟨_, PSs.nox (pss_cons (ps_expr (pe_call G_check_number (hr.mono (by first | decide | omega)) rfl T.g_check_number k_check_number b_check_number hd_check_number pass0 (pa_cons (pv 1) (pa_cons pe_str pa_nil))))
    (pss_cons (ps_lock (ps_setLc (i := 2) (own := [("key", 3), ("entry", 4)]) (g := gTup K 2 (gCons (gName 3) (gCons (gName 4) gNil))) rfl sc_Queue_take.nd rfl rfl (sw_true rfl rfl rfl (by decide +kernel)) (pi_itemsT (pe_fld (pv 0) rfl)) (blkOk_by (own := [("key", 3), ("entry", 4)]) (N := N_Queue_take) (sc := defScope s_Queue_take) (by decide +kernel)) (fun _ _ _ _ _ => (pg_tup rfl (pgs_cons (pg_name (i := 3) sc_Queue_take.nd rfl (Or.inl rfl) (Or.inr rfl)) (pgs_cons (pg_name (i := 4) sc_Queue_take.nd rfl (Or.inl rfl) (Or.inr rfl)) pgs_nil)))) (fun _ _ _ _ _ => (pts_one (pt_cmpR op_le (pe_ix (show IxR _ (rIxT K) from ix_tup) (pv 4) pe_int (fun _ _ => rfl)) (pv 1) (nomark _)))) (fun _ _ _ _ _ => (pe_tup (pa_cons (pv 4) (pa_cons (pv 3) pa_nil))))))
    (pss_cons (ps_if (pt_not (pt_truth (pv 2) (by intro _; rfl))) (pss_one (ps_ret pe_non)) pss_nil)
    (pss_cons (ps_set (i := 3) sc_Queue_take.nd rfl (Or.inl rfl) (pe_ix ix_tup (pe_callB (cr_minD (α := ((Int × Int) × Spot)) rfl hr.units (by decide)) (by rfl) T.n_min (by decide +kernel) (pa_cons (pv 2) pa_nil)) pe_int (fun _ _ => rfl)))
    (pss_cons (ps_expr (pe_bm PySem.F.plainAttrs_dict PySem.F.slot_dict_pop PySem.F.type_dict_pop (mt_pop1T hu) (pe_fld (pv 0) rfl) (pa_cons (pv 3) pa_nil)))
    (pss_cons (ps_dput hu (pe_fld (pv 0) rfl) (pv 3) pe_non rfl)
    (pss_one (ps_ret (pv 3))))))))), ?_⟩
  have hu := hu_of hr
  refine ⟨_, rfl, c, _, rfl, hc, ?_⟩
  obtain ⟨kvs, ge, rows⟩ := hq.ents
  refine ⟨A.e, _, ge, True.intro, fun od => ?_⟩
  have gF : (upd H A.e (.frz od (.dT kvs))) A.e = _ := upd_same
  have obF : (upd H A.e (.frz od (.dT kvs))) A.q = some (.ins (He.ga K "Queue") A.dx (qF A s.longest s.count)) := (upd_ne hq.cap.1).trans hq.ob
  refine ⟨_, rfl, A.q, _, A.dx, _, _, rfl, obF, T.cl_Queue, T.no_Queue_entries, qF_entries, A.e, od, kvs, rfl, gF, fun D hD => ?_⟩
  have nD : D ≠ A.e := fun z => by rw [z, gF] at hD; cases hD
  have lk := rows.length
  refine lc_it walk_itiT (fun i H' => Same (upd H A.e (.frz od (.dT kvs))) H' ∧ RowsAt H' D (dueL c (s.ents.take i))) ⟨Same.new hD, [], upd_same, .nil⟩ (fun i H' _ p => p.1 _ _ gF) ?_ ?_
  · rintro i x H1 H2 hi ⟨S1, ps, gD, hp⟩ ⟨T, q, row, erow, rfl, hT, hq1, rfl⟩
    obtain ⟨e, ee, ek, p, ep, hpp⟩ := rows.at erow
    obtain ⟨rk, rv⟩ := row
    dsimp only at ek ep hq1
    subst ep
    subst ek
    rw [kk_kV] at hq1
    have hpe := S1 _ _ (lock_tup ge (fun _ z => nomatch z) hpp)
    have S2 := Same.new (u := .tup [.ref q, .ref p]) hT
    have gT : (upd H1 T (.tup [.ref q, .ref p])) T = _ := upd_same
    generalize upd H1 T (.tup [.ref q, .ref p]) = H2 at S2 gT ⊢
    refine ⟨T, _, rfl, SqT.of gT, rfl, _, _, rfl, _, _, rfl, rfl, rfl, ?_⟩
    refine ⟨_, rfl, p, _, 0, .int e.2.1, rfl, rfl, SqT.of (S2 _ _ hpe), atI_nat (j := 0) rfl, _, rfl, _, _, rfl, rfl, _, rfl, ?_⟩
    rw [get_take ee, dueL_snoc]
    refine ite2 (fun h => ?_) (fun h => ?_)
    · have h := of_decide_eq_true h
      refine ⟨_, rfl, _, rfl, smallN (by show 2 ≤ 1000; decide), fun t ht => ?_⟩
      have S3 := Same.new (u := .tup [.ref p, .ref q]) ht
      have gt3 : upd H2 t (.tup [.ref p, .ref q]) t = _ := upd_same
      generalize upd H2 t (.tup [.ref p, .ref q]) = H3 at S3 gt3 ⊢
      have gD3 := S3 _ _ (S2 _ _ gD)
      have dl := dueL_len c (s.ents.take i)
      have lp := pair_len hp
      rw [if_pos h]
      have back : ∀ b ys, H3 b = some (.tup ys) → upd H3 D (.lst (ps.map V.ref ++ [.ref t])) b = some (.tup ys) := fun b ys hb => (upd_ne (ne_of hb gD3 fun z => nomatch z)).trans hb
      refine ⟨_, gD3, small5' ?_, fun b o hb => ?_, ps ++ [t], ?_, Paired.snoc (pair_mono hp fun p' r hr => hr.keep fun b ys hb => back _ _ (S3 _ _ (S2 _ _ hb))) ⟨p, q, back _ _ gt3, back _ _ (S3 _ _ (S2 _ _ hpe)), back _ _ (S3 _ _ (S2 _ _ hq1))⟩⟩
      · rw [List.length_map, lp]
        rw [List.length_take] at dl
        have := few.e
        omega
      · rw [upd_ne (ne_of_none hb hD)]; exact S3 _ _ (S2 _ _ (S1 _ _ hb))
      · rw [upd_same, List.map_append]; rfl
    · have h : ¬ e.2.1 ≤ c := fun z => h (decide_eq_true z)
      rw [if_neg h, List.append_nil]
      exact ⟨S1.trans S2, ps, S2 _ _ gD, pair_mono hp fun p' r hr => hr.keep fun b ys hb => S2 _ _ hb⟩
  · rintro H1 ⟨S1, ps, gD, hp⟩
    rw [lk, List.take_length] at hp
    refine ⟨S1 _ _ gF, ?_⟩
    have S2 := unlock_same ge S1
    have gD2 : upd H1 A.e (.dT kvs) D = some (.lst (ps.map V.ref)) := by rw [upd_ne nD]; exact gD
    have hp2 := pair_mono (G := RowAt (upd H1 A.e (.dT kvs))) hp fun p r hr => hr.keep fun b ys hb => lock_tup (S1 _ _ gF) (fun _ z => nomatch z) hb
    generalize upd H1 A.e (.dT kvs) = H2 at S2 gD2 hp2 ⊢
    clear S1 gD hp
    have hq2 := hq.same S2
    have O2 : Off A H H2 := Off.of S2
    refine ⟨_, rfl, _, .inl ⟨_, SqL.of gD2, rfl⟩, ?_⟩
    have due_ : s.due c = dueL c s.ents := rfl
    generalize erows : dueL c s.ents = rs at hp2 due_
    cases hp2 with
    | nil =>
      refine iteT (k .non H2 O2 ?_ ?_)
      · unfold QS.take QS.first; rw [due_]; exact hq2
      · unfold QS.first; rw [due_]
    | @cons p0 r0 ps rs h0 hp =>
      refine iteF ?_
      refine ⟨_, rfl, D, _, r0, rs, rfl, SqL.of gD2, .cons h0.dp (rows_dpA hp), fun i v ev er => ?_⟩
      have hall : Paired (RowAt H2) (p0 :: ps) (r0 :: rs) := .cons h0 hp
      obtain ⟨pi, epi, rfl⟩ : ∃ pi, (p0 :: ps)[i]? = some pi ∧ .ref pi = v := by
        rw [List.getElem?_map] at ev
        exact Option.map_eq_some_iff.mp ev
      obtain ⟨r, e1, x, q, hpi, hx, hqq⟩ := paired_get hall epi
      obtain rfl : r = W.minOf r0 rs := Option.some.inj (e1.symm.trans er)
      have mem_ : W.minOf r0 rs ∈ dueL c s.ents := by rw [erows]; exact mem_at er
      have first_ : s.first c = some (W.minOf r0 rs).2 := by unfold QS.first; rw [due_]
      generalize W.minOf r0 rs = r at mem_ first_ hx hqq
      clear e1 er erows due_ hall h0 hp epi
      refine ⟨pi, _, 1, .ref q, rfl, rfl, SqT.of hpi, atI_nat (j := 1) rfl, ?_⟩
      obtain ⟨kv2, ge2, rows2⟩ := hq2.ents
      have val_ : ∃ v, valV kv2 (kk r.2) = some v := by
        rcases rows2.get r.2 with ⟨n1, _⟩ | ⟨_, v, _, e2, _⟩
        · exact absurd (List.mem_map_of_mem (f := Prod.fst) (dueL_mem.mp mem_).1) (getS_none.mp n1)
        · exact ⟨v, e2⟩
      obtain ⟨v, val_⟩ := val_
      refine ⟨_, rfl, A.q, _, A.dx, _, _, rfl, hq2.ob, T.cl_Queue, T.no_Queue_entries, qF_entries, .inr (.inr (.inl ⟨rfl, .inr ⟨_, ge2⟩⟩)), _, rfl, A.e, q, kv2, kk r.2, v, rfl, rfl, ge2, hqq.key, val_, ?_⟩
      obtain ⟨q3, o3⟩ := hq2.setE (kvs0 := kv2) (rows2.drop r.2)
      have hq3 := hq2.sp o3 hqq
      generalize upd H2 A.e (.dT (dropK kv2 (kk r.2))) = H3 at q3 o3 hq3 ⊢
      obtain ⟨kv3, gt3, rows3⟩ := q3.taken
      refine ⟨_, rfl, A.q, _, A.dx, _, _, rfl, q3.ob, T.cl_Queue, T.no_Queue_taken, qF_taken, _, rfl, A.t, _, rfl, DPut.t gt3 hq3.key (by rw [rows3.length]; exact small5' (by have := few.t; show s.taken.length ≤ _; omega)), ?_⟩
      obtain ⟨q4, o4⟩ := q3.setT (rows3.put r.2 (v := .non) (a := none) rfl)
      have hq4 := q3.sp o4 hq3
      refine ⟨_, rfl, k _ _ ((O2.trans o3).trans o4) ?_ ?_⟩
      · unfold QS.take; rw [first_]; exact q4
      · rw [first_]; exact ⟨q, rfl, hq4⟩

/-! ### waiting, working, next_time, retry, the making -/
section
open PySem.W
def WaitAt (H : Hp) (L : Addr) (rs : List Row3) : Prop := ∃ ps : List Addr, H L = some (.lst (ps.map V.ref)) ∧ Paired (fun p (r : Row3) => ∃ q, H p = some (.tup [.int r.1.1, .ref q]) ∧ SpAt H q r.2) ps rs
def SpotsAt (H : Hp) (L : Addr) (ks : List Spot) : Prop := ∃ qs : List Addr, H L = some (.lst (qs.map V.ref)) ∧ Paired (SpAt H) qs ks
theorem zip_rows {H : Hp} : ∀ {ps : List Addr} {rs : List Row3}, Paired (RowAt H) ps rs → ∀ {v : V} {r : Row3}, (v, r) ∈ (ps.map V.ref).zip rs → ∃ p, v = .ref p ∧ RowAt H p r
  | _, _, .nil, _, _, h => nomatch h
  | _, _, .cons h0 t, v, r, h => by
    rw [List.map_cons, List.zip_cons_cons] at h
    rcases List.mem_cons.mp h with e | h
    · injection e with e1 e2
      subst e1; subst e2
      exact ⟨_, rfl, h0⟩
    · exact zip_rows t h
theorem out_rows {H : Hp} {T : V → Row3 → Prop} : ∀ {out : List V} {rs : List Row3}, Paired T out rs → (∀ v r, T v r → ∃ p, v = .ref p ∧ RowAt H p r) → ∃ ps : List Addr, out = ps.map V.ref ∧ Paired (RowAt H) ps rs
  | _, _, .nil, _ => ⟨[], rfl, .nil⟩
  | _, _, .cons h0 t, k => by
    obtain ⟨ps, e, hp⟩ := out_rows t k
    obtain ⟨p, rfl, h⟩ := k _ _ h0
    exact ⟨p :: ps, by rw [e]; rfl, .cons h hp⟩
theorem out_spots {H : Hp} : ∀ {out : List V} {ks : List Spot}, Paired (fun v k => ∃ q, v = V.ref q ∧ SpAt H q k) out ks → ∃ qs : List Addr, out = qs.map V.ref ∧ Paired (SpAt H) qs ks
  | _, _, .nil => ⟨[], rfl, .nil⟩
  | _, _, .cons ⟨q, e, h⟩ t => by
    obtain ⟨qs, e2, hq⟩ := out_spots t
    exact ⟨q :: qs, by rw [e, e2]; rfl, .cons h hq⟩
theorem rows_sable (rs : List Row3) : W.Sortable (rs.map Datum.toD) := .inl fun d hd => by
  obtain ⟨r, _, rfl⟩ := List.mem_map.mp hd
  exact ⟨_, _, rfl⟩
theorem srtD_len {α : Type} [DecidableEq α] [DatumOrd α] (xs : List α) : (srtD xs).length = xs.length := by unfold srtD; rw [List.length_mergeSort]
def QS.next (s : QS) : Option Int := match s.ents.map (·.2.1) with
  | [] => none
  | x :: xs => some (minOf x xs)
end
def sp_Queue_waiting (K : PySem.W.Frag) : Sp := fun vs H Q _ => ∃ (A : QA) (s : QS), vs = [.ref A.q] ∧ QAt K H A s ∧ Small s ∧ ∀ (L : Addr) (H' : Hp), H L = none → Same H H' → WaitAt H' L s.waiting → Q (.ref L) H'
theorem ok_Queue_waiting {P : Program} {w : World} {K : PySem.W.Frag} {mg : Str → Option Value} {base : Heap} {fd : FuncData} (T : Txt K mg w) (F : FunD K "waiting" "Queue.waiting" (defArgs s_Queue_waiting) (defBody s_Queue_waiting) (defScope s_Queue_waiting) [] [] (He.fAd K ("Queue", some "waiting")) fd) : FnOk P w K mg base CX0 1 (He.fAd K ("Queue", some "waiting")) fd ps_Queue_waiting (sp_Queue_waiting K) := by
  refine F.ok sc_Queue_waiting (fun vs H Q E h => ?len) (fun cdv A outer s H vs Q E hr h => ?body)
  case len => obtain ⟨A, s, rfl, hq, few, k⟩ := h; rfl
  case body =>
  obtain ⟨A, s, rfl, hq, few, k⟩ := h
  have hu := hu_of hr
  refine ⟨_, PSs.nox (pss_cons (ps_set (i := 1) sc_Queue_waiting.nd rfl (Or.inl rfl) (pe_callB (cr_sortD (α := ((Int × Int) × Spot)) hr.units (by decide)) (by rfl) T.n_sorted (by decide +kernel) (pa_cons (pe_lock (pe_lc (own := [("key", 2), ("entry", 3)]) (g := gTup K 2 (gCons (gName 2) (gCons (gName 3) gNil))) rfl sc_Queue_waiting.nd (pi_itemsT (pe_fld (pv 0) rfl)) (blkOk_by (own := [("key", 2), ("entry", 3)]) (N := N_Queue_waiting) (sc := defScope s_Queue_waiting) (by decide +kernel)) (fun _ _ _ _ _ => (pg_tup rfl (pgs_cons (pg_name (i := 2) sc_Queue_waiting.nd rfl (Or.inl rfl) (Or.inr rfl)) (pgs_cons (pg_name (i := 3) sc_Queue_waiting.nd rfl (Or.inl rfl) (Or.inr rfl)) pgs_nil)))) (fun _ _ _ _ _ => pts_nil) (fun _ _ _ _ _ => (pe_tup (pa_cons (pv 3) (pa_cons (pv 2) pa_nil)))))) pa_nil)))
    (pss_one (ps_ret (pe_lc (own := [("entry", 3), ("key", 2)]) (g := gTup K 2 (gCons (gName 3) (gCons (gName 2) gNil))) rfl sc_Queue_waiting.nd (pi_list (pv 1)) (blkOk_by (own := [("entry", 3), ("key", 2)]) (N := N_Queue_waiting) (sc := defScope s_Queue_waiting) (by decide +kernel)) (fun _ _ _ _ _ => (pg_tup rfl (pgs_cons (pg_name (i := 3) sc_Queue_waiting.nd rfl (Or.inl rfl) (Or.inr rfl)) (pgs_cons (pg_name (i := 2) sc_Queue_waiting.nd rfl (Or.inl rfl) (Or.inr rfl)) pgs_nil)))) (fun _ _ _ _ _ => pts_nil) (fun _ _ _ _ _ => (pe_tup (pa_cons (pe_ix (show IxR _ (rIxT K) from ix_tup) (pv 3) pe_int (fun _ _ => rfl)) (pa_cons (pv 2) pa_nil)))))))), ?_⟩
  obtain ⟨kvs, ge, rows⟩ := hq.ents
  refine ⟨A.e, _, ge, True.intro, fun od => ?_⟩
  have gF : (upd H A.e (.frz od (.dT kvs))) A.e = _ := upd_same
  have obF : (upd H A.e (.frz od (.dT kvs))) A.q = some (.ins (He.ga K "Queue") A.dx (qF A s.longest s.count)) := (upd_ne hq.cap.1).trans hq.ob
  refine ⟨_, rfl, A.q, _, A.dx, _, _, rfl, obF, T.cl_Queue, T.no_Queue_entries, qF_entries, A.e, od, kvs, rfl, gF, fun D hD => ?_⟩
  have nD : D ≠ A.e := fun z => by rw [z, gF] at hD; cases hD
  have lk := rows.length
  refine lc_it walk_itiT (fun i H' => Same (upd H A.e (.frz od (.dT kvs))) H' ∧ RowsAt H' D (rowsOf (s.ents.take i))) ⟨Same.new hD, [], upd_same, .nil⟩ (fun i H' _ p => p.1 _ _ gF) ?_ ?_
  · rintro i x H1 H2 hi ⟨S1, ps, gD, hp⟩ ⟨T, q, row, erow, rfl, hT, hq1, rfl⟩
    obtain ⟨e, ee, ek, p, ep, hpp⟩ := rows.at erow
    obtain ⟨rk, rv⟩ := row
    dsimp only at ek ep hq1
    subst ep
    subst ek
    rw [kk_kV] at hq1
    have hpe := S1 _ _ (lock_tup ge (fun _ z => nomatch z) hpp)
    have S2 := Same.new (u := .tup [.ref q, .ref p]) hT
    have gT : (upd H1 T (.tup [.ref q, .ref p])) T = _ := upd_same
    generalize upd H1 T (.tup [.ref q, .ref p]) = H2 at S2 gT ⊢
    refine ⟨T, _, rfl, SqT.of gT, rfl, _, _, rfl, _, _, rfl, rfl, rfl, yes_ (iteT ?_)⟩
    rw [get_take ee, rowsOf_snoc]
    refine ⟨_, rfl, _, rfl, smallN (by show 2 ≤ 1000; decide), fun t ht => ?_⟩
    have S3 := Same.new (u := .tup [.ref p, .ref q]) ht
    have gt3 : upd H2 t (.tup [.ref p, .ref q]) t = _ := upd_same
    generalize upd H2 t (.tup [.ref p, .ref q]) = H3 at S3 gt3 ⊢
    have gD3 := S3 _ _ (S2 _ _ gD)
    have lp := pair_len hp
    have back : ∀ b ys, H3 b = some (.tup ys) → upd H3 D (.lst (ps.map V.ref ++ [.ref t])) b = some (.tup ys) := fun b ys hb => (upd_ne (ne_of hb gD3 fun z => nomatch z)).trans hb
    refine ⟨_, gD3, small5' ?_, fun b o hb => ?_, ps ++ [t], ?_, Paired.snoc (pair_mono hp fun p' r hr => hr.keep fun b ys hb => back _ _ (S3 _ _ (S2 _ _ hb))) ⟨p, q, back _ _ gt3, back _ _ (S3 _ _ (S2 _ _ hpe)), back _ _ (S3 _ _ (S2 _ _ hq1))⟩⟩
    · rw [List.length_map, lp]
      unfold rowsOf
      rw [List.length_map, List.length_take]
      have := few.e
      omega
    · rw [upd_ne (ne_of_none hb hD)]; exact S3 _ _ (S2 _ _ (S1 _ _ hb))
    · rw [upd_same, List.map_append]; rfl
  · rintro H1 ⟨S1, ps, gD, hp⟩
    rw [lk, List.take_length] at hp
    refine ⟨S1 _ _ gF, ?_⟩
    have S2 := unlock_same ge S1
    have gD2 : upd H1 A.e (.dT kvs) D = some (.lst (ps.map V.ref)) := by rw [upd_ne nD]; exact gD
    have hp2 := pair_mono (G := RowAt (upd H1 A.e (.dT kvs))) hp fun p r hr => hr.keep fun b ys hb => lock_tup (S1 _ _ gF) (fun _ z => nomatch z) hb
    generalize upd H1 A.e (.dT kvs) = H2 at S2 gD2 hp2 ⊢
    clear S1 gD hp
    refine ⟨D, _, rowsOf s.ents, rfl, SqL.of gD2, rows_dpA hp2, rows_sable _, fun p out hpn po => ?_⟩
    obtain ⟨zs, rfl, hz⟩ := out_rows po fun v r h => zip_rows hp2 h
    have S3 := Same.new (u := .lst (zs.map V.ref)) hpn
    have gp : upd H2 p (.lst (zs.map V.ref)) p = _ := upd_same
    have hz := pair_mono (G := RowAt (upd H2 p (.lst (zs.map V.ref)))) hz fun p r hr => hr.keep fun b ys hb => S3 _ _ hb
    generalize upd H2 p (.lst (zs.map V.ref)) = H3 at S3 gp hz ⊢
    have S03 := S2.trans S3
    have lz : zs.length = s.ents.length := by rw [pair_len hz, srtD_len]; unfold rowsOf; rw [List.length_map]
    refine ⟨_, rfl, p, rfl, ⟨_, SqL.of gp⟩, fun D2 hD2 => ?_⟩
    have hLn : H D2 = none := by
      cases e : H D2 with
      | none => rfl
      | some o => rw [S03 _ _ e] at hD2; cases hD2
    refine lc_it (walk_list (xs := zs.map V.ref)) (fun i H' => Same H3 H' ∧ WaitAt H' D2 (s.waiting.take i)) ⟨Same.new hD2, [], upd_same, .nil⟩ (fun i H' _ p => SqL.of (p.1 _ _ gp)) ?_ ?_
    · rintro i x _ H4 hi ⟨S4, ps4, gD4, hp4⟩ ⟨rfl, ex⟩
      rw [List.getElem?_map] at ex
      obtain ⟨z, ez, rfl⟩ := Option.map_eq_some_iff.mp ex
      obtain ⟨r, er, y, q, hz1, hy, hqq⟩ := paired_get hz ez
      refine ⟨z, _, rfl, SqT.of (S4 _ _ hz1), rfl, _, _, rfl, _, _, rfl, rfl, rfl, yes_ (iteT ?_)⟩
      have er : s.waiting[i]? = some r := er
      rw [get_take er]
      refine ⟨_, rfl, y, _, 0, .int r.1.1, rfl, rfl, SqT.of (S4 _ _ hy), atI_nat (j := 0) rfl, _, rfl, smallN (by show 2 ≤ 1000; decide), fun t ht => ?_⟩
      have S5 := Same.new (u := .tup [.int r.1.1, .ref q]) ht
      have gt5 : upd H4 t (.tup [.int r.1.1, .ref q]) t = _ := upd_same
      generalize upd H4 t (.tup [.int r.1.1, .ref q]) = H5 at S5 gt5 ⊢
      have gD5 := S5 _ _ gD4
      have back : ∀ b ys, H5 b = some (.tup ys) → upd H5 D2 (.lst (ps4.map V.ref ++ [.ref t])) b = some (.tup ys) := fun b ys hb => (upd_ne (ne_of hb gD5 fun z => nomatch z)).trans hb
      refine ⟨_, gD5, small5' ?_, fun b o hb => ?_, ps4 ++ [t], ?_, Paired.snoc (pair_mono hp4 fun p' r ⟨q', a, b⟩ => ⟨q', back _ _ (S5 _ _ a), back _ _ (S5 _ _ b)⟩) ⟨q, back _ _ gt5, back _ _ (S5 _ _ (S4 _ _ hqq))⟩⟩
      · rw [List.length_map, pair_len hp4, List.length_take]
        rw [List.length_map] at hi
        have := few.e
        omega
      · rw [upd_ne (ne_of_none hb hD2)]; exact S5 _ _ (S4 _ _ hb)
      · rw [upd_same, List.map_append]; rfl
    · rintro H4 ⟨S4, w4⟩
      have lw : s.waiting.length = zs.length := (pair_len hz).symm
      rw [List.length_map, ← lw, List.take_length] at w4
      exact k D2 H4 hLn (S03.trans S4) w4
def sp_Queue_working (K : PySem.W.Frag) : Sp := fun vs H Q _ => ∃ (A : QA) (s : QS), vs = [.ref A.q] ∧ QAt K H A s ∧ (∀ e ∈ s.taken, okKey e.1 = true) ∧ ∀ (L : Addr) (H' : Hp), H L = none → Same H H' → SpotsAt H' L s.working → Q (.ref L) H'
theorem ok_full {k : Spot} (h : okKey k = true) : k.items ≠ [] := by
  obtain ⟨a, b, c, e, _⟩ := okKey_of h
  rw [e]; exact fun z => nomatch z
theorem ok_Queue_working {P : Program} {w : World} {K : PySem.W.Frag} {mg : Str → Option Value} {base : Heap} {fd : FuncData} (T : Txt K mg w) (F : FunD K "working" "Queue.working" (defArgs s_Queue_working) (defBody s_Queue_working) (defScope s_Queue_working) [] [] (He.fAd K ("Queue", some "working")) fd) : FnOk P w K mg base CX0 1 (He.fAd K ("Queue", some "working")) fd ps_Queue_working (sp_Queue_working K) := by
  refine F.ok sc_Queue_working (fun vs H Q E h => ?len) (fun cdv A outer s H vs Q E hr h => ?body)
  case len => obtain ⟨A, s, rfl, hq, oks, k⟩ := h; rfl
  case body =>
  obtain ⟨A, s, rfl, hq, oks, k⟩ := h
  have hu := hu_of hr
  refine ⟨_, PSs.nox (pss_one (ps_ret (pe_callB (cr_sortT rfl hr.units) (by rfl) T.n_sorted (by decide +kernel) (pa_cons (pe_fld (pv 0) rfl) pa_nil)))), ?_⟩
  obtain ⟨kvs, gt, rows⟩ := hq.taken
  refine ⟨_, rfl, A.q, _, A.dx, _, _, rfl, hq.ob, T.cl_Queue, T.no_Queue_taken, qF_taken, A.t, kvs, s.taken.map (·.1), rfl, gt, rows.keys, fun k hk => ?_, fun p out hp po => ?_⟩
  · obtain ⟨e, he, rfl⟩ := List.mem_map.mp hk
    exact ok_full (oks e he)
  · obtain ⟨qs, rfl, hqs⟩ := out_spots po
    exact k p _ hp (Same.new hp) ⟨qs, upd_same, pair_mono hqs fun q t h => (Same.new hp) _ _ h⟩
def sp_Queue_next_time (K : PySem.W.Frag) : Sp := fun vs H Q _ => ∃ (A : QA) (s : QS), vs = [.ref A.q] ∧ QAt K H A s ∧ Small s ∧ ∀ (H' : Hp), Same H H' → Q (oI s.next) H'
theorem ok_Queue_next_time {P : Program} {w : World} {K : PySem.W.Frag} {mg : Str → Option Value} {base : Heap} {fd : FuncData} (T : Txt K mg w) (F : FunD K "next_time" "Queue.next_time" (defArgs s_Queue_next_time) (defBody s_Queue_next_time) (defScope s_Queue_next_time) [] [] (He.fAd K ("Queue", some "next_time")) fd) : FnOk P w K mg base CX0 1 (He.fAd K ("Queue", some "next_time")) fd ps_Queue_next_time (sp_Queue_next_time K) := by
  refine F.ok sc_Queue_next_time (fun vs H Q E h => ?len) (fun cdv A outer s H vs Q E hr h => ?body)
  case len => obtain ⟨A, s, rfl, hq, few, k⟩ := h; rfl
  case body =>
  obtain ⟨A, s, rfl, hq, few, k⟩ := h
  have hu := hu_of hr
  refine ⟨_, PSs.nox (pss_one (ps_ret (pe_callBK (cr_minDef (α := Int) rfl hr.units (by decide)) (by rfl) T.n_min (by decide +kernel) (pa_cons (pe_lock (pe_lc (own := [("entry", 1)]) rfl sc_Queue_next_time.nd (pi_valuesT (pe_fld (pv 0) rfl)) (blkOk_by (own := [("entry", 1)]) (N := N_Queue_next_time) (sc := defScope s_Queue_next_time) (by decide +kernel)) (fun _ _ _ _ _ => (pg_name (i := 1) sc_Queue_next_time.nd rfl (Or.inl rfl))) (fun _ _ _ _ _ => pts_nil) (fun _ _ _ _ _ => (pe_ix (show IxR _ (rIxT K) from ix_tup) (pv 1) pe_int (fun _ _ => rfl))))) pa_nil) (pk_cons pe_non pk_nil)))), ?_⟩
  obtain ⟨kvs, ge, rows⟩ := hq.ents
  refine ⟨A.e, _, ge, True.intro, fun od => ?_⟩
  have gF : (upd H A.e (.frz od (.dT kvs))) A.e = _ := upd_same
  have obF : (upd H A.e (.frz od (.dT kvs))) A.q = some (.ins (He.ga K "Queue") A.dx (qF A s.longest s.count)) := (upd_ne hq.cap.1).trans hq.ob
  refine ⟨_, rfl, A.q, _, A.dx, _, _, rfl, obF, T.cl_Queue, T.no_Queue_entries, qF_entries, A.e, od, kvs, rfl, gF, fun D hD => ?_⟩
  have nD : D ≠ A.e := fun z => by rw [z, gF] at hD; cases hD
  have lk := rows.length
  refine lc_it walk_itvT (fun i H' => Same (upd H A.e (.frz od (.dT kvs))) H' ∧ H' D = some (.lst (((s.ents.take i).map (·.2.1)).map V.int))) ⟨Same.new hD, upd_same⟩ (fun i H' _ p => p.1 _ _ gF) ?_ ?_
  · rintro i x H1 _ hi ⟨S1, gD⟩ ⟨rfl, row, erow, rfl⟩
    obtain ⟨e, ee, ek, p, ep, hpp⟩ := rows.at erow
    have hpe := S1 _ _ (lock_tup ge (fun _ z => nomatch z) hpp)
    refine ⟨rfl, yes_ (iteT ?_)⟩
    refine ⟨_, rfl, p, _, 0, .int e.2.1, ep, rfl, SqT.of hpe, atI_nat (j := 0) rfl, _, gD, small5' ?_, fun b o hb => ?_, ?_⟩
    · rw [List.length_map, List.length_map, List.length_take]; have := few.e; omega
    · rw [upd_ne (ne_of_none hb hD)]; exact S1 _ _ hb
    · rw [upd_same, get_take ee, List.map_append, List.map_append]; rfl
  · rintro H1 ⟨S1, gD⟩
    rw [lk, List.take_length] at gD
    refine ⟨S1 _ _ gF, ?_⟩
    have S2 := unlock_same ge S1
    have gD2 : upd H1 A.e (.dT kvs) D = some (.lst ((s.ents.map (·.2.1)).map V.int)) := by rw [upd_ne nD]; exact gD
    have q := k _ S2
    generalize upd H1 A.e (.dT kvs) = H2 at S2 gD2 q ⊢
    refine ⟨D, _, s.ents.map (·.2.1), .non, rfl, rfl, SqL.of gD2, ?_, fun e => ?_, fun y ys i v e ev er => ?_⟩
    · generalize s.ents.map (·.2.1) = ts
      induction ts with
      | nil => exact .nil
      | cons x r more => exact .cons (.int x) more
    · unfold QS.next at q; rw [e] at q; exact q
    · unfold QS.next at q; rw [e] at q
      rw [List.getElem?_map, er] at ev
      cases ev
      exact q

/-! ### retry, the making -/
theorem add_taken {s : QS} {k : Spot} {t : Int} {x : Option Int} (h : getS s.taken k = some x) : ∃ o, s.add k t = { s with taken := putS s.taken k (some o) } := by
  unfold QS.add
  rw [h]
  cases x with
  | none => exact ⟨_, rfl⟩
  | some u => exact ⟨_, rfl⟩
structure Few (s : QS) : Prop where
  e : s.ents.length < 50000
  t : s.taken.length < 50000
  d : s.delays.length < 50000
theorem Few.small {s : QS} (h : Few s) : Small s := ⟨by have := h.e; omega, by have := h.t; omega, by have := h.d; omega⟩
def sp_Queue_retry (K : PySem.W.Frag) : Sp := fun vs H Q _ => ∃ (A : QA) (s : QS) (kb : Addr) (k : Spot) (c : Int), vs = [.ref A.q, .ref kb, .int c] ∧ QAt K H A s ∧ SpAt H kb k ∧ okKey k = true ∧ (getS s.taken k).isSome = true ∧ 0 ≤ c ∧ 0 ≤ s.delay k ∧ Few s ∧ ∀ H', Off A H H' → QAt K H' A (s.retry k c) → Q .non H'
theorem ok_Queue_retry {P : Program} {w : World} {K : PySem.W.Frag} {mg : Str → Option Value} {base : Heap} {fd : FuncData} (T : Txt K mg w) (F : FunD K "retry" "Queue.retry" (defArgs s_Queue_retry) (defBody s_Queue_retry) (defScope s_Queue_retry) [] [] (He.fAd K ("Queue", some "retry")) fd) : FnOk P w K mg base CX0 56 (He.fAd K ("Queue", some "retry")) fd ps_Queue_retry (sp_Queue_retry K) := by
  obtain ⟨fd_Queue_check_taken, F_Queue_check_taken⟩ := T.d_Queue_check_taken
  have G_Queue_check_taken := ok_Queue_check_taken (P := P) (w := w) (base := base) T F_Queue_check_taken
  have k_Queue_check_taken := F_Queue_check_taken.kp
  have b_Queue_check_taken := bi_Queue_check_taken F_Queue_check_taken
  obtain ⟨fd_Queue_add, F_Queue_add⟩ := T.d_Queue_add
  have G_Queue_add := ok_Queue_add (P := P) (w := w) (base := base) T F_Queue_add
  have k_Queue_add := F_Queue_add.kp
  have b_Queue_add := bi_Queue_add F_Queue_add
  obtain ⟨fd_Queue_done, F_Queue_done⟩ := T.d_Queue_done
  have G_Queue_done := ok_Queue_done (P := P) (w := w) (base := base) T F_Queue_done
  have k_Queue_done := F_Queue_done.kp
  have b_Queue_done := bi_Queue_done F_Queue_done
  obtain ⟨fd_check_number, F_check_number⟩ := T.d_check_number
  have G_check_number := ok_check_number (P := P) (w := w) (base := base) T F_check_number
  have k_check_number := F_check_number.kp
  obtain ⟨ds_check_number, hd_check_number, b_check_number⟩ := bi_check_number F_check_number
  obtain ⟨fd_Queue_delay, F_Queue_delay⟩ := T.d_Queue_delay
  have G_Queue_delay := ok_Queue_delay (P := P) (w := w) (base := base) T F_Queue_delay
  have k_Queue_delay := F_Queue_delay.kp
  have b_Queue_delay := bi_Queue_delay F_Queue_delay
  refine F.ok sc_Queue_retry (fun vs H Q E h => ?len) (fun cdv A outer s H vs Q E hr h => ?body)
  case len => obtain ⟨A, s, kb, key, c, rfl, hq0, hk0, hok, there, hc, hd, few, k⟩ := h; rfl
  case body =>
  obtain ⟨A, s, kb, key, c, rfl, hq0, hk0, hok, there, hc, hd, few, k⟩ := h
  have hu := hu_of hr
  refine ⟨_, PSs.nox (pss_cons (ps_expr (pe_meth (pv 0) T.cl_Queue T.m_Queue_check_taken G_Queue_check_taken (hr.mono (by first | decide | omega)) b_Queue_check_taken .nil pass0 (pa_cons (pv 1) pa_nil)))
    (pss_cons (ps_expr (pe_call G_check_number (hr.mono (by first | decide | omega)) rfl T.g_check_number k_check_number b_check_number hd_check_number pass0 (pa_cons (pv 2) (pa_cons pe_str pa_nil))))
    (pss_cons (ps_expr (pe_meth (pv 0) T.cl_Queue T.m_Queue_add G_Queue_add (hr.mono (by first | decide | omega)) b_Queue_add .nil pass0 (pa_cons (pv 1) (pa_cons (pe_op op_add (pv 2) (pe_meth (pv 0) T.cl_Queue T.m_Queue_delay G_Queue_delay (hr.mono (by first | decide | omega)) b_Queue_delay .nil pass0 (pa_cons (pv 1) pa_nil))) pa_nil))))
    (pss_cons (ps_dput hu (pe_fld (pv 0) rfl) (pv 1) (pe_callB (call_min2 rfl) (by rfl) T.n_min (by decide +kernel) (pa_cons (pe_op op_mul pe_int (pe_meth (pv 0) T.cl_Queue T.m_Queue_delay G_Queue_delay (hr.mono (by first | decide | omega)) b_Queue_delay .nil pass0 (pa_cons (pv 1) pa_nil))) (pa_cons (pe_fld (pv 0) rfl) pa_nil))) rfl)
    (pss_one (ps_expr (pe_meth (pv 0) T.cl_Queue T.m_Queue_done G_Queue_done (hr.mono (by first | decide | omega)) b_Queue_done .nil pass0 (pa_cons (pv 1) pa_nil)))))))), ?_⟩
  have hu := hu_of hr
  obtain ⟨x, hx⟩ := Option.isSome_iff_exists.mp there
  refine ⟨_, rfl, A.q, A.dx, _, rfl, hq0.ob, qF_no (by decide +kernel), _, rfl, A, s, kb, key, rfl, hq0, hk0, hok, there, fun H1 S1 => ?_⟩
  have hq := hq0.same S1
  have hk := hk0.same S1
  have O1 : Off A H H1 := Off.of S1
  refine ⟨_, rfl, c, _, rfl, hc, ?_⟩
  refine ⟨_, rfl, A.q, A.dx, _, rfl, hq.ob, qF_no (by decide +kernel), _, rfl, _, rfl, _, rfl, A.q, A.dx, _, rfl, hq.ob, qF_no (by decide +kernel), _, rfl, A, s, kb, key, rfl, hq, hk, hok, fun H2 S2 => ?_⟩
  have hq2 := hq.same S2
  have hk2 := hk.same S2
  have O2 : Off A H H2 := O1.trans (Off.of S2)
  refine ⟨_, _, rfl, rfl, A, s, kb, key, _, rfl, hq2, hk2, hok, by omega, few.small, fun H3 O3 q3 => ?_⟩
  obtain ⟨o, eo⟩ := add_taken (t := c + s.delay key) hx
  have hk3 := hq2.sp O3 hk2
  have delay_ : (s.add key (c + s.delay key)).delay key = s.delay key := by rw [eo]; rfl
  have long_ : (s.add key (c + s.delay key)).longest = s.longest := by rw [eo]
  refine ⟨_, rfl, A.q, A.dx, _, rfl, q3.ob, qF_no (by decide +kernel), _, rfl, A, _, kb, key, rfl, q3, hk3, hok, fun H4 S4 => ?_⟩
  have q4 := q3.same S4
  have hk4 := hk3.same S4
  have O4 : Off A H H4 := (O2.trans O3).trans (Off.of S4)
  obtain ⟨kvs, gd, rows⟩ := q4.delays
  refine ⟨_, _, rfl, rfl, .inl ⟨by decide, by decide⟩, _, rfl, A.q, _, A.dx, _, _, rfl, q4.ob, T.cl_Queue, T.no_Queue_longest, qF_longest, _, _, rfl, ?_⟩
  refine ⟨_, rfl, A.q, _, A.dx, _, _, rfl, q4.ob, T.cl_Queue, T.no_Queue_delays, qF_delays, _, rfl, A.d, _, rfl, DPut.t gd hk4.key (by rw [rows.length]; exact small5' (by rw [eo]; have := few.d; show s.delays.length ≤ _; omega)), ?_⟩
  obtain ⟨q5, o5⟩ := q4.setD (rows.put key (v := .int (minPy (2 * (s.add key (c + s.delay key)).delay key) (s.add key (c + s.delay key)).longest)) (a := minPy (2 * (s.add key (c + s.delay key)).delay key) (s.add key (c + s.delay key)).longest) rfl)
  have hk5 := q4.sp o5 hk4
  refine ⟨_, rfl, A.q, A.dx, _, rfl, q5.ob, qF_no (by decide +kernel), _, rfl, A, (s.add key (c + s.delay key)).slow key, kb, key, rfl, q5, hk5, hok, ?_, ?_, fun H6 O6 q6 => k H6 ((O4.trans o5).trans O6) q6⟩
  · rw [eo]
    show (getS (putS s.taken key (some o)) key).isSome = true
    rw [getS_put, if_pos rfl]; rfl
  · rw [eo]
    refine ⟨?_, ?_, ?_⟩
    · show s.ents.length < _; have := few.e; omega
    · show (putS s.taken key _).length < _; have := few.t; have := putS_len s.taken key (some o); omega
    · show (putS s.delays key _).length < _
      exact Nat.lt_of_le_of_lt (putS_len _ _ _) (by have := few.d; omega)
abbrev QInit (K : PySem.W.Frag) (fd : FuncData) : Prop := FunD K "__init__" "Queue.__init__" (defArgs s_Queue___init__) (defBody s_Queue___init__) (defScope s_Queue___init__) [] [("most", .int 1)] (He.fAd K ("Queue", some "__init__")) fd
theorem bk_Queue___init__ {K : PySem.W.Frag} {fd : FuncData} (F : QInit K fd) : ∃ mv : List Value, KBn K fd ps_Queue___init__ 1 ["most"] (fun us ws => us ++ ws) (fun vs zs => vs ++ zs) :=
  FunD.kbinds0 F 1 ["most"] [] (fun us mv ws => us ++ ws) (fun z => nomatch z) (fun q h => nomatch h) (fun a _ c => a.append c) (fun D doc pm an cdv ct us mv ws l1 l2 l3 => match us, mv, ws, l1, l2, l3 with | [_], [], [_], _, _, _ => rfl)
theorem bk0_Queue___init__ {K : PySem.W.Frag} {fd : FuncData} (F : QInit K fd) : ∃ mv : List Value, KBn K fd ps_Queue___init__ 1 [] (fun us ws => us ++ mv) (fun vs zs => vs ++ [V.int 1]) :=
  FunD.kbinds0 F 1 [] [("most", .int 1)] (fun us mv ws => us ++ mv) (fun z => nomatch z) (fun q h => h) (fun a b _ => a.append b) (fun D doc pm an cdv ct us mv ws l1 l2 l3 => match us, mv, ws, l1, l2, l3 with | [_], [_], [], _, _, _ => ⟨_, _, _, _, _, _, rfl, rfl, rfl⟩)
def sp_Queue___init__ (K : PySem.W.Frag) : Sp := fun vs H Q _ => ∃ (q dx : Addr) (m : Int), vs = [.ref q, .int m] ∧ H q = some (.ins (He.ga K "Queue") dx []) ∧ 1 ≤ m ∧ m ≤ 1000 ∧
  ∀ (A : QA) (H' : Hp), A.q = q → H A.e = none → H A.t = none → H A.d = none → (∀ b o, H b = some o → b ≠ q → H' b = some o) → QAt K H' A (QS.new m) → Q .non H'
theorem putF_len (f : Str) (v : V) : ∀ fs : List (Str × V), (putF f v fs).length ≤ fs.length + 1
  | [] => Nat.le_refl _
  | (g, x) :: r => by
    show (if g = f then (g, v) :: r else (g, x) :: putF f v r).length ≤ _
    split
    · simp
    · have := putF_len f v r
      simp only [List.length_cons]; omega
theorem lt_put {f : Str} {v : V} {fs : List (Str × V)} {n : Nat} (h : fs.length < n) : (putF f v fs).length < n + 1 := by have := putF_len f v fs; omega
theorem init_step {H1 H2 : Hp} {q d : Addr} {u o o' : HO} (e : upd (upd H1 d o) q o' = H2) (g : H1 q = some u) (hd : H1 d = none) : H2 q = some o' ∧ H2 d = some o ∧ (∀ b x, H1 b = some x → b ≠ q → H2 b = some x) ∧ ∀ b, H2 b = none → H1 b = none := by
  have n : q ≠ d := ne_of_none g hd
  subst e
  refine ⟨upd_same, by rw [upd_ne n.symm, upd_same], fun b x hb nb => by rw [upd_ne nb, upd_ne (ne_of_none hb hd)]; exact hb, fun b hb => ?_⟩
  by_cases z : b = q
  · rw [z, upd_same] at hb; cases hb
  · rw [upd_ne z] at hb
    by_cases y : b = d
    · rw [y]; exact hd
    · rw [upd_ne y] at hb; exact hb
theorem ok_Queue___init__ {P : Program} {w : World} {K : PySem.W.Frag} {mg : Str → Option Value} {base : Heap} {fd : FuncData} (T : Txt K mg w) (F : FunD K "__init__" "Queue.__init__" (defArgs s_Queue___init__) (defBody s_Queue___init__) (defScope s_Queue___init__) [] [("most", .int 1)] (He.fAd K ("Queue", some "__init__")) fd) : FnOk P w K mg base CX0 2 (He.fAd K ("Queue", some "__init__")) fd ps_Queue___init__ (sp_Queue___init__ K) := by
  obtain ⟨fd_is_integer, F_is_integer⟩ := T.d_is_integer
  have G_is_integer := ok_is_integer (P := P) (w := w) (base := base) T F_is_integer
  have k_is_integer := F_is_integer.kp
  have b_is_integer := bi_is_integer F_is_integer
  obtain ⟨t_MOST_DELAY, h_MOST_DELAY⟩ := T.c_MOST_DELAY
  refine F.ok sc_Queue___init__ (fun vs H Q E h => ?len) (fun cdv A outer s H vs Q E hr h => ?body)
  case len => obtain ⟨q, dx, m, rfl, hq, h1, h2, k⟩ := h; rfl
  case body =>
  obtain ⟨q, dx, m, rfl, hq, h1, h2, k⟩ := h
  have hu := hu_of hr
  refine ⟨_, PSs.nox (pss_cons (ps_if (PW.pt (pw_or (pt_not (pt_val (pe_call G_is_integer (hr.mono (by first | decide | omega)) rfl T.g_is_integer k_is_integer b_is_integer .nil pass0 (pa_cons (pv 1) pa_nil)))) (pw_or1 (pt_not (pt_chain op_le op_le pe_int (pv 1) (pe_glob (v := .int 1000) rfl h_MOST_DELAY ⟨_, rfl⟩)))))) (pss_one ps_never) pss_nil)
    (pss_cons (ps_fld (pv 0) (pv 1) rfl)
    (pss_cons (ps_fld (pv 0) pe_dnewT rfl)
    (pss_cons (ps_fld (pv 0) pe_dnewT rfl)
    (pss_cons (ps_fld (pv 0) pe_dnewT rfl)
    (pss_one (ps_fld (pv 0) pe_int rfl))))))), ?_⟩
  refine ⟨_, rfl, .int m, rfl, .inl trivial, ⟨_, rfl, iteF ?_⟩⟩
  refine ⟨_, rfl, _, _, rfl, rfl, _, rfl, ite2 (fun _ => ⟨_, _, rfl, rfl, _, rfl, ?_⟩) (fun h => absurd (decide_eq_true h1) h)⟩
  rw [decide_eq_true h2]
  refine iteF ⟨_, rfl, _, rfl, q, _, dx, [], rfl, hq, T.cl_Queue, T.no_Queue_longest, (by show 0 < 1000; decide), ?_⟩
  have g1 : upd H q (.ins (He.ga K "Queue") dx (putF "longest" (.int m) [])) q = _ := upd_same
  have k1 : ∀ b o, H b = some o → b ≠ q → upd H q (.ins (He.ga K "Queue") dx (putF "longest" (.int m) [])) b = some o := fun b o e n => by rw [upd_ne n]; exact e
  have z1 : ∀ b, upd H q (.ins (He.ga K "Queue") dx (putF "longest" (.int m) [])) b = none → H b = none := fun b e => by
    by_cases z : b = q
    · rw [z, upd_same] at e; cases e
    · rw [upd_ne z] at e; exact e
  generalize upd H q (.ins (He.ga K "Queue") dx (putF "longest" (.int m) [])) = H1 at g1 k1 z1 ⊢
  intro de hde
  refine ⟨_, rfl, q, _, dx, _, rfl, (by rw [upd_ne (ne_of_none g1 hde)]; exact g1), T.cl_Queue, T.no_Queue_entries, (by show 1 < 1000; decide), ?_⟩
  generalize e2 : upd (upd H1 de (.dT [])) q _ = H2
  obtain ⟨g2, ge2, k2, z2⟩ := init_step e2 g1 hde
  intro dt hdt
  refine ⟨_, rfl, q, _, dx, _, rfl, (by rw [upd_ne (ne_of_none g2 hdt)]; exact g2), T.cl_Queue, T.no_Queue_taken, (Nat.lt_trans (lt_put (lt_put (n := 1) (by show 0 < 1; decide))) (by decide)), ?_⟩
  generalize e3 : upd (upd H2 dt (.dT [])) q _ = H3
  obtain ⟨g3, gt3, k3, z3⟩ := init_step e3 g2 hdt
  intro dd hdd
  refine ⟨_, rfl, q, _, dx, _, rfl, (by rw [upd_ne (ne_of_none g3 hdd)]; exact g3), T.cl_Queue, T.no_Queue_delays, (Nat.lt_trans (lt_put (lt_put (lt_put (n := 1) (by show 0 < 1; decide)))) (by decide)), ?_⟩
  generalize e4 : upd (upd H3 dd (.dT [])) q _ = H4
  obtain ⟨g4, gd4, k4, z4⟩ := init_step e4 g3 hdd
  refine ⟨_, rfl, q, _, dx, _, rfl, g4, T.cl_Queue, T.no_Queue_count, ?_, ?_⟩
  · exact Nat.lt_trans (lt_put (lt_put (lt_put (lt_put (n := 1) (by show 0 < 1; decide))))) (by decide)
  · have net : de ≠ dt := ne_of_none ge2 hdt
    have ge3 := k3 _ _ ge2 (ne_of ge2 g2 fun z => nomatch z)
    have ned : de ≠ dd := ne_of_none ge3 hdd
    have ntd : dt ≠ dd := ne_of_none gt3 hdd
    have nq : ∀ {b : Addr} {x : List (List Key × V)}, H4 b = some (.dT x) → b ≠ q := fun hb => ne_of hb g4 fun z => nomatch z
    have ge4 := k4 _ _ ge3 (ne_of ge3 g3 fun z => nomatch z)
    have gt4 := k4 _ _ gt3 (ne_of gt3 g3 fun z => nomatch z)
    refine k ⟨q, dx, de, dt, dd⟩ _ rfl (z1 _ hde) (z1 _ (z2 _ hdt)) (z1 _ (z2 _ (z3 _ hdd))) (fun b o hb nb => ?_) ⟨?_, ⟨[], ?_, .nil⟩, ⟨[], ?_, .nil⟩, ⟨[], ?_, .nil⟩, net, ned, ntd⟩
    · rw [upd_ne nb]; exact k4 _ _ (k3 _ _ (k2 _ _ (k1 _ _ hb nb) nb) nb) nb
    · rw [upd_same]
      exact congrArg (fun l => some (HO.ins (He.ga K "Queue") dx l)) (qF_made (A := ⟨q, dx, de, dt, dd⟩) (l := m) (c := 0))
    · rw [upd_ne (nq ge4)]; exact ge4
    · rw [upd_ne (nq gt4)]; exact gt4
    · rw [upd_ne (nq gd4)]; exact gd4

/-! ### == and != of two values of one Lean type -/
section
open PySem.W
variable {X : Cx}
def rEqX (K : PySem.W.Frag) (tell : Bool → Bool) : R2 := fun x y H Q => ∃ (α : Type) (_ : DecidableEq α) (_ : Datum α) (a b : α), Datum.depth α ≤ 40 ∧ Dp K H x (Datum.toD a) ∧ Dp K H y (Datum.toD b) ∧ Q (.bl (tell (decide (a = b)))) H
theorem op_eqX (hu : X.A.units + 64 < cLine) : OpR X (compareOp .Eq) (rEqX X.K id) := fun pins s σ H x y v u Q I rx ry ⟨α, _, _, a, b, deep, da, db, told⟩ => by
  have ha : Holds s.heap v a := Dp.reads I _ _ _ da rx
  have hb : Holds s.heap u b := Dp.reads I _ _ _ db ry
  exact eq_datum ha hb (by omega) ⟨.bl _, H, I, rfl, told⟩
theorem op_neX (hu : X.A.units + 64 < cLine) : OpR X (compareOp .NotEq) (rEqX X.K not) := fun pins s σ H x y v u Q I rx ry ⟨α, _, _, a, b, deep, da, db, told⟩ => by
  have ha : Holds s.heap v a := Dp.reads I _ _ _ da rx
  have hb : Holds s.heap u b := Dp.reads I _ _ _ db ry
  exact ne_datum ha hb (by omega) ⟨.bl _, H, I, rfl, by rw [decide_not]; exact told⟩
end

/-! ### the order of rows -/
section
open PySem.W
section
variable {α : Type} [DecidableEq α] [DatumOrd α]
theorem leD_tot : TotalLe (leD (α := α)) := leD_eq (α := α) ▸ sortLe_total _ false _
theorem leD_trans {a b c : α} (h : leD a b = true) (g : leD b c = true) : leD a c = true := leD_tot.trans a b c h g
theorem leD_or (a b : α) : leD a b = true ∨ leD b a = true := by
  have := leD_tot.total a b
  simpa using this
theorem leD_refl (a : α) : leD a a = true := (leD_or a a).elim id id
theorem srtD_perm (xs : List α) : (srtD xs).Perm xs := List.mergeSort_perm xs leD
theorem srtD_sorted (xs : List α) : (srtD xs).Pairwise (fun a b => leD a b = true) := List.pairwise_mergeSort (le := leD) (fun a b c h g => leD_trans h g) (fun a b => by simpa using leD_or a b) xs
/-- one order, where no two are alike -/
theorem srtD_one {xs ys : List α} (anti : ∀ a ∈ xs, ∀ b ∈ xs, leD a b = true → leD b a = true → a = b) (p : ys.Perm xs) (s : ys.Pairwise (fun a b => leD a b = true)) : ys = srtD xs :=
  List.Perm.eq_of_pairwise (le := fun a b => leD a b = true) (fun a b ha hb h g => anti a (p.mem_iff.mp ha) b ((srtD_perm xs).mem_iff.mp hb) h g) s (srtD_sorted xs) (p.trans (srtD_perm xs).symm)
theorem minOf_step (x y : α) (ys : List α) : minOf x (y :: ys) = minOf (if DatumOrd.lt y x = true then y else x) ys := rfl
theorem minOf_least : ∀ (xs : List α) (x : α), minOf x xs ∈ x :: xs ∧ ∀ y ∈ x :: xs, leD (minOf x xs) y = true
  | [], x => ⟨List.mem_cons_self, fun y hy => by rw [List.mem_singleton.mp hy]; exact leD_refl x⟩
  | z :: xs, x => by
    rw [minOf_step]
    by_cases h : DatumOrd.lt z x = true
    · rw [if_pos h]
      obtain ⟨m, l⟩ := minOf_least xs z
      have zx : leD z x = true := (leD_or z x).elim id fun g => by
        have : leD x z = false := by show (!DatumOrd.lt z x) = false; rw [h]; rfl
        rw [this] at g; cases g
      refine ⟨List.mem_cons_of_mem _ m, fun y hy => ?_⟩
      rcases List.mem_cons.mp hy with e | hy
      · rw [e]; exact leD_trans (l z List.mem_cons_self) zx
      · exact l y hy
    · rw [if_neg h]
      obtain ⟨m, l⟩ := minOf_least xs x
      have xz : leD x z = true := by show (!DatumOrd.lt z x) = true; rw [Bool.not_eq_true] at h; rw [h]; rfl
      refine ⟨?_, fun y hy => ?_⟩
      · rcases List.mem_cons.mp m with e | e
        · rw [e]; exact List.mem_cons_self
        · exact List.mem_cons_of_mem _ (List.mem_cons_of_mem _ e)
      · rcases List.mem_cons.mp hy with e | hy
        · rw [e]; exact l x List.mem_cons_self
        · rcases List.mem_cons.mp hy with e | hy
          · rw [e]; exact leD_trans (l x List.mem_cons_self) xz
          · exact l y (List.mem_cons_of_mem _ hy)
end
/-- two rows with other counts: by time, then by count -/
def rlt (p q : Row3) : Prop := p.1.1 < q.1.1 ∨ (p.1.1 = q.1.1 ∧ p.1.2 < q.1.2)
theorem lt_pair {a b : Int × Int} : DatumOrd.lt a b = (if a.1 = b.1 then decide (a.2 < b.2) else decide (a.1 < b.1)) := rfl
theorem le_rlt {p q : Row3} (h : rlt p q) : leD p q = true := by
  have n : ¬ q.1 = p.1 := fun e => by
    unfold rlt at h; rw [e] at h; omega
  show (!(if q.1 = p.1 then DatumOrd.lt q.2 p.2 else DatumOrd.lt q.1 p.1)) = true
  rw [if_neg n, lt_pair]
  unfold rlt at h
  by_cases e : q.1.1 = p.1.1
  · rw [if_pos e, Bool.not_eq_true', decide_eq_false_iff_not]; omega
  · rw [if_neg e, Bool.not_eq_true', decide_eq_false_iff_not]; omega
theorem rlt_of {p q : Row3} (n : p.1.2 ≠ q.1.2) (h : leD p q = true) : rlt p q := by
  have n1 : ¬ q.1 = p.1 := fun e => n (by rw [e])
  have h : (!(if q.1 = p.1 then DatumOrd.lt q.2 p.2 else DatumOrd.lt q.1 p.1)) = true := h
  rw [if_neg n1, lt_pair] at h
  unfold rlt
  by_cases e : q.1.1 = p.1.1
  · rw [if_pos e, Bool.not_eq_true', decide_eq_false_iff_not] at h; omega
  · rw [if_neg e, Bool.not_eq_true', decide_eq_false_iff_not] at h; omega
/-- what holds of a queue between two calls -/
structure Good (s : QS) : Prop where
  once : (s.ents.map (·.1)).Nodup
  cnt : (s.ents.map (·.2.2)).Nodup
  le : ∀ e ∈ s.ents, e.2.2 ≤ s.count
theorem cnt_inj {es : List (Spot × (Int × Int))} (h : (es.map (·.2.2)).Nodup) {e f : Spot × (Int × Int)} (he : e ∈ es) (hf : f ∈ es) (q : e.2.2 = f.2.2) : e = f := by
  induction es with
  | nil => cases he
  | cons x r more =>
    rw [List.map_cons, List.nodup_cons] at h
    rcases List.mem_cons.mp he with e1 | e1
    · rcases List.mem_cons.mp hf with f1 | f1
      · rw [e1, f1]
      · exact absurd (by rw [← e1, q]; exact List.mem_map_of_mem (f := fun e : Spot × (Int × Int) => e.2.2) f1) h.1
    · rcases List.mem_cons.mp hf with f1 | f1
      · exact absurd (by rw [← f1, ← q]; exact List.mem_map_of_mem (f := fun e : Spot × (Int × Int) => e.2.2) e1) h.1
      · exact more h.2 e1 f1
theorem rows_mem {es : List (Spot × (Int × Int))} {r : Row3} : r ∈ rowsOf es ↔ (r.2, r.1) ∈ es := by
  unfold rowsOf
  rw [List.mem_map]
  exact ⟨fun ⟨e, he, q⟩ => by rw [← q]; exact he, fun h => ⟨_, h, rfl⟩⟩
theorem rows_anti {es : List (Spot × (Int × Int))} (h : (es.map (·.2.2)).Nodup) : ∀ a ∈ rowsOf es, ∀ b ∈ rowsOf es, leD a b = true → leD b a = true → a = b := fun a ha b hb h1 h2 => by
  by_cases e : a.1.2 = b.1.2
  · have := cnt_inj h (rows_mem.mp ha) (rows_mem.mp hb) e
    injection this with q1 q2
    exact Prod.ext q2 q1
  · have g1 := rlt_of e h1
    have g2 := rlt_of (Ne.symm e) h2
    unfold rlt at g1 g2
    omega
/-- the rows in their order are told by being in order -/
theorem waiting_is {s : QS} (g : (s.ents.map (·.2.2)).Nodup) {ws : List Row3} (p : ws.Perm (rowsOf s.ents)) (o : ws.Pairwise rlt) : ws = s.waiting := srtD_one (rows_anti g) p (o.imp le_rlt)
theorem waiting_perm (s : QS) : s.waiting.Perm (rowsOf s.ents) := srtD_perm _
theorem waiting_rlt {s : QS} (g : (s.ents.map (·.2.2)).Nodup) : s.waiting.Pairwise rlt := by
  have nd : (s.waiting.map (·.1.2)).Nodup := by
    refine ((waiting_perm s).map (·.1.2)).nodup_iff.mpr ?_
    unfold rowsOf; rw [List.map_map]; exact g
  have nd : s.waiting.Pairwise (fun a b => a.1.2 ≠ b.1.2) := by
    have := nd; unfold List.Nodup at this; rwa [List.pairwise_map] at this
  have so : s.waiting.Pairwise (fun a b => leD a b = true) := srtD_sorted _
  exact (nd.and so).imp fun ⟨n, h⟩ => rlt_of n h
/-- the list of the law: moments and spots, in order -/
abbrev WR := List (Int × Spot)
def wr (s : QS) : WR := s.waiting.map fun r => (r.1.1, r.2)
def behind (rs : WR) (t : Int) : Nat := (rs.filter fun r => decide (r.1 ≤ t)).length
def offK (rs : WR) (k : Spot) : WR := rs.filter fun r => decide (¬ r.2 = k)
def insAt (rs : WR) (k : Spot) (t : Int) : WR := rs.take (behind rs t) ++ [(t, k)] ++ rs.drop (behind rs t)
def knownL (rs : WR) (k : Spot) : WR := rs.filter fun r => decide (r.2 = k)
def enterL (rs : WR) (k : Spot) (t : Int) : WR := match knownL rs k with
  | r :: _ => if r.1 ≤ t then rs else insAt (offK rs k) k t
  | [] => insAt (offK rs k) k t
/-- in a list in order the early ones stand ahead -/
theorem cut_le {t : Int} : ∀ {ws : List Row3}, ws.Pairwise rlt → (∀ r ∈ ws.take ((ws.filter fun r => decide (r.1.1 ≤ t)).length), r.1.1 ≤ t) ∧ ∀ r ∈ ws.drop ((ws.filter fun r => decide (r.1.1 ≤ t)).length), t < r.1.1
  | [], _ => ⟨fun r h => (nomatch h), fun r h => (nomatch h)⟩
  | w :: ws, h => by
    rw [List.pairwise_cons] at h
    obtain ⟨a, b⟩ := cut_le (t := t) h.2
    by_cases q : w.1.1 ≤ t
    · rw [List.filter_cons_of_pos (by simpa using q), List.length_cons, List.take_succ_cons, List.drop_succ_cons]
      exact ⟨fun r hr => (List.mem_cons.mp hr).elim (fun e => e ▸ q) (a r), b⟩
    · have none_ : ws.filter (fun r => decide (r.1.1 ≤ t)) = [] := List.filter_eq_nil_iff.mpr fun r hr => by
        have := h.1 r hr
        unfold rlt at this
        simp only [decide_eq_true_eq]
        omega
      rw [List.filter_cons_of_neg (by simpa using q), none_]
      refine ⟨fun r hr => (nomatch hr), fun r hr => ?_⟩
      rcases List.mem_cons.mp hr with e | hr
      · rw [e]; omega
      · have := h.1 r hr
        unfold rlt at this
        omega
theorem pairwise_mid {α : Type} {R : α → α → Prop} {xs ys : List α} {z : α} (h : (xs ++ ys).Pairwise R) (h1 : ∀ x ∈ xs, R x z) (h2 : ∀ y ∈ ys, R z y) : (xs ++ [z] ++ ys).Pairwise R := by
  rw [List.pairwise_append] at h
  obtain ⟨a, b, c⟩ := h
  rw [List.append_assoc, List.pairwise_append]
  refine ⟨a, List.pairwise_cons.mpr ⟨h2, b⟩, fun x hx y hy => ?_⟩
  rcases List.mem_cons.mp hy with e | hy
  · rw [e]; exact h1 x hx
  · exact c x hx y hy
theorem rows_put_perm {es : List (Spot × (Int × Int))} {k : Spot} {x : Int × Int} (nd : (es.map (·.1)).Nodup) : (rowsOf (putS es k x)).Perm ((x, k) :: (rowsOf es).filter fun r => decide (¬ r.2 = k)) := by
  have drop_ : (rowsOf es).filter (fun r => decide (¬ r.2 = k)) = rowsOf (dropS es k) := by
    unfold rowsOf dropS
    rw [List.filter_map]
    rfl
  rw [drop_]
  have : (putS es k x).Perm ((k, x) :: dropS es k) := by
    refine (List.perm_ext_iff_of_nodup ?_ ?_).mpr fun e => ?_
    · exact List.Pairwise.of_map (fun e : Spot × (Int × Int) => e.1) (fun a b h e => h (by rw [e])) (putS_nodup (a := x) (k := k) nd)
    · refine List.nodup_cons.mpr ⟨fun h => (dropS_mem.mp h).2 rfl, ?_⟩
      exact List.Pairwise.of_map (fun e : Spot × (Int × Int) => e.1) (fun a b h e => h (by rw [e])) (dropS_nodup (k := k) nd)
    · have nd2 := putS_nodup (a := x) (k := k) nd
      constructor
      · intro he
        have g := getS_of nd2 he
        rw [getS_put] at g
        by_cases q : e.1 = k
        · rw [if_pos q] at g
          cases g
          rw [← q]; exact List.mem_cons_self
        · rw [if_neg q] at g
          exact List.mem_cons_of_mem _ (dropS_mem.mpr ⟨getS_mem g, q⟩)
      · intro he
        have key : getS (putS es k x) e.1 = some e.2 := by
          rw [getS_put]
          rcases List.mem_cons.mp he with q | q
          · rw [q]; exact if_pos rfl
          · obtain ⟨a, b⟩ := dropS_mem.mp q
            rw [if_neg b]; exact getS_of nd a
        exact getS_mem key
  exact this.map _
theorem Good.bump {s : QS} (g : Good s) (k : Spot) (t : Int) : Good (s.bump k t) := by
  refine ⟨putS_nodup g.once, ?_, fun e he => ?_⟩
  · have p := (rows_put_perm (x := (t, s.count + 1)) (k := k) g.once).map (·.1.2)
    have e1 : (rowsOf (putS s.ents k (t, s.count + 1))).map (·.1.2) = (putS s.ents k (t, s.count + 1)).map (·.2.2) := by unfold rowsOf; rw [List.map_map]; rfl
    rw [e1] at p
    refine p.nodup_iff.mpr ?_
    rw [List.map_cons, List.nodup_cons]
    refine ⟨fun h => ?_, ?_⟩
    · obtain ⟨r, hr, e⟩ := List.mem_map.mp h
      have low : r.1.2 ≤ s.count := g.le _ (rows_mem.mp (List.mem_filter.mp hr).1)
      have e : r.1.2 = s.count + 1 := e
      omega
    · refine List.Nodup.sublist (List.Sublist.map _ (List.filter_sublist ..)) ?_
      unfold rowsOf; rw [List.map_map]; exact g.cnt
  · show e.2.2 ≤ s.count + 1
    have key := getS_of (putS_nodup (a := (t, s.count + 1)) (k := k) g.once) he
    rw [getS_put] at key
    by_cases q : e.1 = k
    · rw [if_pos q] at key
      have : (t, s.count + 1) = e.2 := Option.some.inj key
      rw [← this]; exact Int.le_refl _
    · rw [if_neg q] at key
      have := g.le _ (getS_mem key)
      have this : e.2.2 ≤ s.count := this
      omega
theorem map_filter {α β : Type} (f : α → β) (p : β → Bool) (xs : List α) : (xs.map f).filter p = (xs.filter fun x => p (f x)).map f := by rw [List.filter_map]; rfl
theorem off_wr (ws : List Row3) (k : Spot) : offK (ws.map fun r => (r.1.1, r.2)) k = (ws.filter fun r => decide (¬ r.2 = k)).map fun r => (r.1.1, r.2) := by unfold offK; rw [map_filter]
theorem ins_wr (ws : List Row3) (k : Spot) (t c : Int) : insAt (ws.map fun r => (r.1.1, r.2)) k t = (ws.take ((ws.filter fun r => decide (r.1.1 ≤ t)).length) ++ [((t, c), k)] ++ ws.drop ((ws.filter fun r => decide (r.1.1 ≤ t)).length)).map fun r => (r.1.1, r.2) := by
  unfold insAt behind
  rw [map_filter, List.length_map, List.map_append, List.map_append, List.map_take, List.map_drop]
  rfl
theorem wr_bump {s : QS} (g : Good s) (k : Spot) (t : Int) : wr (s.bump k t) = insAt (offK (wr s) k) k t := by
  unfold wr
  rw [off_wr, ins_wr _ k t (s.count + 1)]
  have o := (waiting_rlt g.cnt).filter fun r => decide (¬ r.2 = k)
  have p0 := (waiting_perm s).filter fun r => decide (¬ r.2 = k)
  generalize s.waiting.filter (fun r => decide (¬ r.2 = k)) = ws at o p0
  refine congrArg (List.map _) (waiting_is (g.bump k t).cnt ?_ ?_).symm
  · refine List.Perm.trans ?_ (rows_put_perm g.once).symm
    refine List.Perm.trans ?_ (p0.cons _)
    rw [List.append_assoc]
    refine List.perm_middle.trans ?_
    show (_ :: (ws.take _ ++ ws.drop _)).Perm _
    rw [List.take_append_drop]
  · obtain ⟨a, b⟩ := cut_le (t := t) o
    have cs : ∀ r ∈ ws, r.1.2 ≤ s.count := fun r hr => g.le _ (rows_mem.mp (List.mem_filter.mp (p0.mem_iff.mp hr)).1)
    refine pairwise_mid (by rw [List.take_append_drop]; exact o) (fun r hr => ?_) fun r hr => ?_
    · have h1 := a r hr
      have h2 := cs r (List.mem_of_mem_take hr)
      unfold rlt
      show r.1.1 < t ∨ (r.1.1 = t ∧ r.1.2 < s.count + 1)
      omega
    · exact .inl (b r hr)
theorem known_none {s : QS} (g : Good s) {k : Spot} : knownL (wr s) k = match getS s.ents k with | none => [] | some x => [(x.1, k)] := by
  have key : (s.waiting.filter fun r => decide (r.2 = k)).Perm ((rowsOf s.ents).filter fun r => decide (r.2 = k)) := (waiting_perm s).filter _
  have e1 : knownL (wr s) k = (s.waiting.filter fun r => decide (r.2 = k)).map fun r => (r.1.1, r.2) := by unfold knownL wr; rw [map_filter]
  rw [e1]
  have e2 : (rowsOf s.ents).filter (fun r => decide (r.2 = k)) = match getS s.ents k with | none => [] | some x => [(x, k)] := by
    have nd := g.once
    generalize s.ents = es at nd
    induction es with
    | nil => rfl
    | cons e r more =>
      rw [List.map_cons, List.nodup_cons] at nd
      show ((e.2, e.1) :: rowsOf r).filter _ = _
      by_cases q : e.1 = k
      · rw [getS_pos q, List.filter_cons_of_pos (by simpa using q), more nd.2, getS_none.mpr (by rw [← q]; exact nd.1)]
        rw [q]
      · rw [getS_neg q, List.filter_cons_of_neg (by simpa using q)]
        exact more nd.2
  rw [e2] at key
  cases h : getS s.ents k with
  | none => rw [h] at key; rw [List.Perm.eq_nil key]; rfl
  | some x => rw [h] at key; rw [List.perm_singleton.mp key]; rfl
theorem wr_put {s : QS} (g : Good s) (k : Spot) (t : Int) : wr (s.put k t) = enterL (wr s) k t ∧ Good (s.put k t) := by
  unfold QS.put enterL
  rw [known_none g]
  cases h : getS s.ents k with
  | none => exact ⟨wr_bump g k t, g.bump k t⟩
  | some x =>
    show wr (if t < x.1 then s.bump k t else s) = (if x.1 ≤ t then wr s else _) ∧ Good (if t < x.1 then s.bump k t else s)
    by_cases q : t < x.1
    · rw [if_pos q, if_neg (by omega)]; exact ⟨wr_bump g k t, g.bump k t⟩
    · rw [if_neg q, if_pos (by omega)]; exact ⟨rfl, g⟩
/-- what comes out first -/
def firstL (rs : WR) (c : Int) : Option Spot := match rs with
  | r :: _ => if r.1 ≤ c then some r.2 else none
  | [] => none
theorem head_least {w : Row3} {ws : List Row3} (o : (w :: ws).Pairwise rlt) : ∀ r ∈ w :: ws, r = w ∨ rlt w r := fun r hr => (List.mem_cons.mp hr).imp id fun h => (List.pairwise_cons.mp o).1 r h
theorem first_wr {s : QS} (g : Good s) (c : Int) : s.first c = firstL (wr s) c := by
  have o := waiting_rlt g.cnt
  have p := waiting_perm s
  unfold QS.first firstL wr
  have mem_ : ∀ r, r ∈ s.due c ↔ r ∈ s.waiting ∧ r.1.1 ≤ c := fun r => by
    rw [p.mem_iff, rows_mem]; exact dueL_mem
  generalize s.waiting = W at o mem_
  cases hd : s.due c with
  | nil =>
    rw [hd] at mem_
    cases W with
    | nil => rfl
    | cons w ws =>
      have : ¬ w.1.1 ≤ c := fun h => nomatch (mem_ w).mpr ⟨List.mem_cons_self, h⟩
      exact (if_neg this).symm
  | cons x xs =>
    rw [hd] at mem_
    obtain ⟨m, l⟩ := minOf_least xs x
    have hm := (mem_ _).mp m
    cases W with
    | nil => cases hm.1
    | cons w ws =>
      have wc : w.1.1 ≤ c := by
        rcases head_least o _ hm.1 with e | e
        · rw [← e]; exact hm.2
        · have := hm.2; unfold rlt at e; omega
      have lw := l w ((mem_ w).mpr ⟨List.mem_cons_self, wc⟩)
      have e : minOf x xs = w := by
        rcases head_least o _ hm.1 with e | e
        · exact e
        · exfalso
          have n : (minOf x xs).1.2 ≠ w.1.2 ∨ (minOf x xs).1.2 = w.1.2 := by omega
          rcases n with n | n
          · have := rlt_of n lw
            unfold rlt at this e; omega
          · have n1 : ¬ w.1 = (minOf x xs).1 := fun z => by unfold rlt at e; rw [z] at e; omega
            have lw : (!(if w.1 = (minOf x xs).1 then DatumOrd.lt w.2 (minOf x xs).2 else DatumOrd.lt w.1 (minOf x xs).1)) = true := lw
            rw [if_neg n1, lt_pair] at lw
            unfold rlt at e
            by_cases q : w.1.1 = (minOf x xs).1.1
            · omega
            · rw [if_neg q, Bool.not_eq_true', decide_eq_false_iff_not] at lw; omega
      show some (minOf x xs).2 = (if w.1.1 ≤ c then some w.2 else none)
      rw [if_pos wc, e]
theorem Good.out {s : QS} (g : Good s) (k : Spot) : Good (s.out k) :=
  ⟨dropS_nodup g.once, g.cnt.sublist (List.Sublist.map _ (List.filter_sublist ..)), fun e he => g.le e (dropS_mem.mp he).1⟩
theorem wr_out {s : QS} (g : Good s) {k : Spot} {m : Int} {r : WR} (h : wr s = (m, k) :: r) : wr (s.out k) = r := by
  have o := waiting_rlt g.cnt
  have p := waiting_perm s
  unfold wr at h
  have nd : (s.waiting.map (·.2)).Nodup := by
    refine (p.map (·.2)).nodup_iff.mpr ?_
    unfold rowsOf; rw [List.map_map]; exact g.once
  cases W : s.waiting with
  | nil => rw [W] at h; cases h
  | cons w ws =>
    rw [W] at h o p nd
    rw [List.map_cons] at h
    injection h with h1 h2
    injection h1 with h0 h1
    rw [List.map_cons, List.nodup_cons] at nd
    have e : ws = (s.out k).waiting := by
      refine waiting_is (g.out k).cnt ?_ (List.pairwise_cons.mp o).2
      have q := p.filter fun r => decide (¬ r.2 = k)
      rw [List.filter_cons_of_neg (by simpa using h1)] at q
      have e1 : ws.filter (fun r => decide (¬ r.2 = k)) = ws := List.filter_eq_self.mpr fun r hr => decide_eq_true fun z => nd.1 (by rw [h1, ← z]; exact List.mem_map_of_mem hr)
      rw [e1] at q
      refine q.trans (List.Perm.of_eq ?_)
      show _ = rowsOf (dropS s.ents k)
      unfold rowsOf dropS
      rw [List.filter_map]
      rfl
    unfold wr
    rw [← e]; exact h2
theorem next_wr {s : QS} (g : Good s) : s.next = (wr s).head?.map (·.1) := by
  have o := waiting_rlt g.cnt
  have p := waiting_perm s
  have mem_ : ∀ t, t ∈ s.ents.map (·.2.1) ↔ ∃ r ∈ s.waiting, r.1.1 = t := fun t => by
    rw [List.mem_map]
    constructor
    · rintro ⟨e, he, rfl⟩; exact ⟨(e.2, e.1), p.mem_iff.mpr (rows_mem.mpr he), rfl⟩
    · rintro ⟨r, hr, rfl⟩; exact ⟨_, rows_mem.mp (p.mem_iff.mp hr), rfl⟩
  unfold QS.next wr
  generalize s.waiting = W at o mem_
  cases hd : s.ents.map (·.2.1) with
  | nil =>
    rw [hd] at mem_
    cases W with
    | nil => rfl
    | cons w ws => exact nomatch (mem_ w.1.1).mpr ⟨w, List.mem_cons_self, rfl⟩
  | cons x xs =>
    rw [hd] at mem_
    obtain ⟨m, l⟩ := minOf_least xs x
    obtain ⟨r, hr, er⟩ := (mem_ _).mp m
    cases W with
    | nil => cases hr
    | cons w ws =>
      have a := l w.1.1 ((mem_ _).mpr ⟨w, List.mem_cons_self, rfl⟩)
      have a : (!decide (w.1.1 < minOf x xs)) = true := a
      rw [Bool.not_eq_true', decide_eq_false_iff_not] at a
      show some (minOf x xs) = some w.1.1
      rcases head_least o r hr with e | e
      · rw [← er, e]
      · unfold rlt at e; congr 1; omega
/-- the calls, on the law's side -/
theorem add_good {s : QS} (g : Good s) (k : Spot) (t : Int) : Good (s.add k t) ∧ wr (s.add k t) = (match getS s.taken k with | some _ => wr s | none => enterL (wr s) k t) ∧
    (s.add k t).taken = (match getS s.taken k with | some (some u) => putS s.taken k (some (minPy u t)) | some none => putS s.taken k (some t) | none => s.taken) ∧ (s.add k t).delays = s.delays ∧ (s.add k t).longest = s.longest := by
  unfold QS.add
  rcases getS s.taken k with _ | _ | u
  · have ⟨a, b⟩ := wr_put g k t
    refine ⟨b, a, ?_⟩
    unfold QS.put
    rcases getS s.ents k with _ | x
    · exact ⟨rfl, rfl, rfl⟩
    · show (if t < x.1 then s.bump k t else s).taken = _ ∧ (if t < x.1 then s.bump k t else s).delays = _ ∧ (if t < x.1 then s.bump k t else s).longest = _
      split <;> exact ⟨rfl, rfl, rfl⟩
  · exact ⟨⟨g.once, g.cnt, g.le⟩, rfl, rfl, rfl, rfl⟩
  · exact ⟨⟨g.once, g.cnt, g.le⟩, rfl, rfl, rfl, rfl⟩
theorem put_rest (s : QS) (k : Spot) (t : Int) : (s.put k t).taken = s.taken ∧ (s.put k t).delays = s.delays ∧ (s.put k t).longest = s.longest := by
  unfold QS.put
  rcases getS s.ents k with _ | x
  · exact ⟨rfl, rfl, rfl⟩
  · show (if t < x.1 then s.bump k t else s).taken = _ ∧ (if t < x.1 then s.bump k t else s).delays = _ ∧ (if t < x.1 then s.bump k t else s).longest = _
    split <;> exact ⟨rfl, rfl, rfl⟩
def endL (rs : WR) (k : Spot) : Option Int → WR
  | some t => enterL rs k t
  | none => rs
theorem done_good {s : QS} (g : Good s) {k : Spot} {o : Option Int} (h : getS s.taken k = some o) : Good (s.done k) ∧ wr (s.done k) = endL (wr s) k o ∧
    (s.done k).taken = dropS s.taken k ∧ (s.done k).delays = s.delays ∧ (s.done k).longest = s.longest := by
  unfold QS.done
  rw [h]
  have g2 : Good { s with taken := dropS s.taken k } := ⟨g.once, g.cnt, g.le⟩
  cases o with
  | none => exact ⟨g2, rfl, rfl, rfl, rfl⟩
  | some t =>
    have ⟨a, b⟩ := wr_put g2 k t
    have ⟨x, y, z⟩ := put_rest { s with taken := dropS s.taken k } k t
    exact ⟨b, a, x, y, z⟩
end

/-! ### parts of lists -/
theorem paired_take {α β : Type} {F : α → β → Prop} : ∀ (n : Nat) {xs : List α} {ys : List β}, Paired F xs ys → Paired F (xs.take n) (ys.take n)
  | 0, _, _, _ => by rw [List.take_zero, List.take_zero]; exact .nil
  | _ + 1, _, _, .nil => .nil
  | n + 1, _, _, .cons r t => .cons r (paired_take n t)
theorem paired_drop {α β : Type} {F : α → β → Prop} : ∀ (n : Nat) {xs : List α} {ys : List β}, Paired F xs ys → Paired F (xs.drop n) (ys.drop n)
  | 0, _, _, h => h
  | _ + 1, _, _, .nil => .nil
  | n + 1, _, _, .cons _ t => paired_drop n t
theorem cut_take (xs : List V) (n : Nat) : cutV xs none (some (n : Int)) = xs.take n := by
  unfold cutV
  rw [HT.sIx_nat, HT.sIx_none, List.drop_zero, Nat.sub_zero]
  by_cases h : n ≤ xs.length
  · rw [Nat.min_eq_left h]
  · rw [Nat.min_eq_right (by omega), List.take_length, List.take_of_length_le (by omega)]
theorem cut_drop (xs : List V) (n : Nat) : cutV xs (some (n : Int)) none = xs.drop n := by
  unfold cutV
  rw [HT.sIx_nat, HT.sIx_none]
  by_cases h : n ≤ xs.length
  · rw [Nat.min_eq_left h]
    exact List.take_of_length_le (by rw [List.length_drop]; omega)
  · rw [Nat.min_eq_right (by omega), List.drop_length, List.take_nil, List.drop_eq_nil_of_le (by omega)]
theorem cut_takeI (xs : List V) {i : Int} (h : 0 ≤ i) : cutV xs none (some i) = xs.take i.toNat := by
  obtain ⟨n, rfl⟩ := Int.eq_ofNat_of_zero_le h
  exact cut_take xs n
theorem cut_dropI (xs : List V) {i : Int} (h : 0 ≤ i) : cutV xs (some i) none = xs.drop i.toNat := by
  obtain ⟨n, rfl⟩ := Int.eq_ofNat_of_zero_le h
  exact cut_drop xs n
theorem cut_mem {xs : List V} {lo hi : Option Int} {y : V} (h : y ∈ cutV xs lo hi) : y ∈ xs := List.mem_of_mem_drop (List.mem_of_mem_take h)
theorem cut_int {ns : List Int} {lo hi : Option Int} {x : V} (h : x ∈ cutV (ns.map V.int) lo hi) : ∃ i, x = .int i := by
  obtain ⟨i, _, rfl⟩ := List.mem_map.mp (cut_mem h)
  exact ⟨i, rfl⟩
theorem paired_app {α β : Type} {F : α → β → Prop} : ∀ {xs xs' : List α} {ys ys' : List β}, Paired F xs ys → Paired F xs' ys' → Paired F (xs ++ xs') (ys ++ ys')
  | _, _, _, _, .nil, h => h
  | _, _, _, _, .cons r t, h => .cons r (paired_app t h)

/-! ### [x for x in xs if test]: the items chosen -/
abbrev LcTurns (J : It) (g : TG) (tt : TT) (te : TE) (vs : List Nat) (σ : L2.St) (start : Hp) (D : Addr) (Fin : Hp → Prop) : Prop := ∃ W : Nat → Nat → Hp → Prop, (∃ m, W 0 m start) ∧ ∀ i m H, W i m H →
  (J.stop i H ∧ Fin H) ∨ (J.go i H ∧ ∃ Nx : Hp → Prop, (∀ H', Nx H' → ∃ m', m' < m ∧ W (i + 1) m' H') ∧ ∀ x H', J.yld i H x H' → g x (wipe σ vs) H' fun σ2 H2 => wipe σ2 vs = wipe σ vs ∧ tt σ2 H2 fun b H3 =>
    if b = true then te σ2 H3 fun y H4 => ∃ acc, H4 D = some (.lst acc) ∧ acc.length < sizeLine ∧ Nx (upd H4 D (.lst (acc ++ [y]))) else Nx H3)
/-- RR: what an item's object stands for; it reads tuples alone -/
def TupRel {β : Type} (RR : Hp → Addr → β → Prop) : Prop := ∀ {H H' : Hp} {p : Addr} {r : β}, (∀ b ys, H b = some (.tup ys) → H' b = some (.tup ys)) → RR H p r → RR H' p r
theorem lc_pick {β : Type} {RR : Hp → Addr → β → Prop} (keepR : TupRel RR) (P : β → Bool) {K : PySem.W.Frag} {g : TG} {tt : TT} {te : TE} {vs : List Nat} {σ : L2.St} {H1 : Hp} {D L : Addr} {Fin : Hp → Prop} {ps : List Addr} {ws : List β}
    (gL : H1 L = some (.lst (ps.map V.ref))) (hp : Paired (RR H1) ps ws) (hD : H1 D = none) (few : ws.length < 100000)
    (turn : ∀ (p : Addr) (r : β) (H2 : Hp), r ∈ ws → Same H1 H2 → RR H2 p r → ∀ (C : V → Hp → Prop) (E : Hp → Prop), (∀ H3, Same H2 H3 → P r = true → C (.ref p) H3) → (∀ H3, Same H2 H3 → P r = false → E H3) →
      g (.ref p) (wipe σ vs) H2 fun σ2 H2' => wipe σ2 vs = wipe σ vs ∧ tt σ2 H2' fun b H3 => if b = true then te σ2 H3 C else E H3)
    (fin : ∀ (H' : Hp) (qs : List Addr), Same H1 H' → H' D = some (.lst (qs.map V.ref)) → Paired (RR H') qs (ws.filter P) → Fin H') : LcTurns (Itl K L) g tt te vs σ (upd H1 D (.lst [])) D Fin := by
  have lp : ps.length = ws.length := Paired.length hp
  refine lc_it (walk_list (xs := ps.map V.ref)) (fun i H' => Same H1 H' ∧ ∃ qs : List Addr, H' D = some (.lst (qs.map V.ref)) ∧ Paired (RR H') qs ((ws.take i).filter P)) ⟨Same.new hD, [], upd_same, .nil⟩ (fun i H' _ p => SqL.of (p.1 _ _ gL)) ?_ ?_
  · rintro i x _ H2 hi ⟨S1, qs, gD, hq⟩ ⟨rfl, ex⟩
    rw [List.getElem?_map] at ex
    obtain ⟨p, ep, rfl⟩ := Option.map_eq_some_iff.mp ex
    obtain ⟨r, er, hr⟩ := paired_get hp ep
    rw [get_take er, List.filter_append]
    have lq : qs.length ≤ ws.length := by
      have e : qs.length = _ := Paired.length hq
      have := List.length_filter_le P (ws.take i)
      rw [List.length_take] at this
      omega
    refine turn p r H2 (mem_at er) S1 (keepR (fun b ys hb => S1 _ _ hb) hr) _ _ (fun H3 S2 y => ?_) (fun H3 S2 y => ?_)
    · have gD3 := S2 _ _ gD
      have back : ∀ b ys, H3 b = some (.tup ys) → upd H3 D (.lst (qs.map V.ref ++ [.ref p])) b = some (.tup ys) := fun b ys hb => (upd_ne (ne_of hb gD3 fun z => nomatch z)).trans hb
      refine ⟨_, gD3, small5' (by rw [List.length_map]; omega), fun b o hb => ?_, qs ++ [p], by rw [upd_same, List.map_append]; rfl, ?_⟩
      · rw [upd_ne (ne_of_none hb hD)]; exact S2 _ _ (S1 _ _ hb)
      · rw [List.filter_cons_of_pos y, List.filter_nil]
        exact Paired.snoc (Paired.mono (fun _ _ h => keepR (fun b ys hb => back _ _ (S2 _ _ hb)) h) hq) (keepR (fun b ys hb => back _ _ (S2 _ _ (S1 _ _ hb))) hr)
    · rw [List.filter_cons_of_neg (by rw [y]; exact Bool.false_ne_true), List.filter_nil, List.append_nil]
      exact ⟨S1.trans S2, qs, S2 _ _ gD, Paired.mono (fun _ _ h => keepR (fun b ys hb => S2 _ _ hb) h) hq⟩
  · rintro H2 ⟨S1, qs, gD, hq⟩
    rw [List.length_map, lp, List.take_length] at hq
    exact fin H2 qs S1 gD hq
/-- [f(x) for x in xs]: plain values made of the items -/
theorem lc_make {β : Type} {RR : Hp → Addr → β → Prop} (keepR : TupRel RR) (F : β → V) {K : PySem.W.Frag} {g : TG} {te : TE} {vs : List Nat} {σ : L2.St} {H1 : Hp} {D L : Addr} {Fin : Hp → Prop} {ps : List Addr} {ws : List β}
    (gL : H1 L = some (.lst (ps.map V.ref))) (hp : Paired (RR H1) ps ws) (hD : H1 D = none) (few : ws.length < 100000)
    (turn : ∀ (p : Addr) (r : β) (H2 : Hp), r ∈ ws → Same H1 H2 → RR H2 p r → ∀ (C : V → Hp → Prop), (∀ H3, Same H2 H3 → C (F r) H3) →
      g (.ref p) (wipe σ vs) H2 fun σ2 H2' => wipe σ2 vs = wipe σ vs ∧ te σ2 H2' C)
    (fin : ∀ (H' : Hp), Same H1 H' → H' D = some (.lst (ws.map F)) → Fin H') (gm : ∀ {x : V} {σ : L2.St} {H : Hp} {A B : L2.St → Hp → Prop}, g x σ H A → (∀ σ H, A σ H → B σ H) → g x σ H B) : LcTurns (Itl K L) g tYes te vs σ (upd H1 D (.lst [])) D Fin := by
  have lp : ps.length = ws.length := Paired.length hp
  refine lc_it (walk_list (xs := ps.map V.ref)) (fun i H' => Same H1 H' ∧ H' D = some (.lst ((ws.take i).map F))) ⟨Same.new hD, upd_same⟩ (fun i H' _ p => SqL.of (p.1 _ _ gL)) ?_ ?_
  · rintro i x _ H2 hi ⟨S1, gD⟩ ⟨rfl, ex⟩
    rw [List.getElem?_map] at ex
    obtain ⟨p, ep, rfl⟩ := Option.map_eq_some_iff.mp ex
    obtain ⟨r, er, hr⟩ := paired_get hp ep
    rw [get_take er, List.map_append]
    refine gm (turn p r H2 (mem_at er) S1 (keepR (fun b ys hb => S1 _ _ hb) hr) (fun y H4 => ∃ acc, H4 D = some (.lst acc) ∧ acc.length < sizeLine ∧ Same H1 (upd H4 D (.lst (acc ++ [y]))) ∧ upd H4 D (.lst (acc ++ [y])) D = some (.lst ((ws.take i).map F ++ [r].map F))) fun H3 S2 => ?_) fun σ2 H2 ⟨e, q⟩ => ⟨e, yes_ (iteT q)⟩
    refine ⟨_, S2 _ _ gD, small5' (by rw [List.length_map, List.length_take]; omega), fun b o hb => ?_, by rw [upd_same]; rfl⟩
    rw [upd_ne (ne_of_none hb hD)]; exact S2 _ _ (S1 _ _ hb)
  · rintro H2 ⟨S1, gD⟩
    rw [List.length_map, lp, List.take_length] at gD
    exact fin H2 S1 gD
theorem gName_mono {i : Nat} {x : V} {σ : L2.St} {H : Hp} {A B : L2.St → Hp → Prop} (h : gName i x σ H A) (k : ∀ σ H, A σ H → B σ H) : gName i x σ H B := k _ _ h

/-! ### the law's own table -/
section
open PySem.W
def RowW (H : Hp) (p : Addr) (r : Int × Spot) : Prop := ∃ q, H p = some (.tup [.int r.1, .ref q]) ∧ SpAt H q r.2
theorem rowW_keep : TupRel RowW := fun k ⟨q, a, b⟩ => ⟨q, k _ _ a, k _ _ b⟩
theorem RowW.dp {K : PySem.W.Frag} {H : Hp} {p : Addr} {r : Int × Spot} (h : RowW H p r) : Dp K H (.ref p) (Datum.toD r) := have ⟨_, a, b⟩ := h; .tup (SqT.of a) (.cons (.int _) (.cons b.dp .nil))
def WAt (H : Hp) (L : Addr) (ws : WR) : Prop := ∃ ps : List Addr, H L = some (.lst (ps.map V.ref)) ∧ Paired (RowW H) ps ws
theorem ws_dp {K : PySem.W.Frag} {H : Hp} {ps : List Addr} {ws : WR} (h : Paired (RowW H) ps ws) : DpAll K H (ps.map V.ref) (ws.map Datum.toD) := by
  induction h with
  | nil => exact .nil
  | cons r _ more => exact .cons r.dp more
theorem WAt.dp {K : PySem.W.Frag} {H : Hp} {L : Addr} {ws : WR} (h : WAt H L ws) : Dp K H (.ref L) (Datum.toD ws) := have ⟨_, a, b⟩ := h; .lst (SqL.of a) (ws_dp b)
theorem WAt.same {H H' : Hp} {L : Addr} {ws : WR} (h : WAt H L ws) (s : Same H H') : WAt H' L ws := have ⟨ps, a, b⟩ := h; ⟨ps, s _ _ a, Paired.mono (fun _ _ r => rowW_keep (fun b ys hb => s _ _ hb) r) b⟩
theorem WaitAt.w {H : Hp} {L : Addr} {rs : List Row3} (h : WaitAt H L rs) : WAt H L (rs.map fun r => (r.1.1, r.2)) := by
  obtain ⟨ps, a, b⟩ := h
  refine ⟨ps, a, ?_⟩
  clear a
  induction b with
  | nil => exact .nil
  | cons r _ more => exact .cons r more
structure LB where
  M : Addr
  Tk : Addr
  Dl : Addr
  Ky : Addr
structure MS where
  rows : WR
  taken : List (Spot × Option Int)
  delays : List (Spot × Int)
  longest : Int
def mK (R : Addr) (B : LB) (l : Int) : List (Key × V) := [(.inr "rows", .ref R), (.inr "taken", .ref B.Tk), (.inr "delays", .ref B.Dl), (.inr "keys", .ref B.Ky), (.inr "longest", .int l)]
theorem mk_nm : (Str.ofString "rows" ≠ "taken" ∧ Str.ofString "rows" ≠ "delays" ∧ Str.ofString "rows" ≠ "keys" ∧ Str.ofString "rows" ≠ "longest") ∧ (Str.ofString "taken" ≠ "delays" ∧ Str.ofString "taken" ≠ "keys" ∧ Str.ofString "taken" ≠ "longest") ∧ (Str.ofString "delays" ≠ "keys" ∧ Str.ofString "delays" ≠ "longest") ∧ Str.ofString "keys" ≠ "longest" := by decide +kernel
theorem vk_ne {a b : Str} {v : V} {r : List (Key × V)} (h : a ≠ b) : valV ((.inr a, v) :: r) (.inr b : Key) = valV r (.inr b) := valV_neg (p := ((.inr a : Key), v)) fun z => h (Sum.inr.inj z)
theorem vk_eq {a : Str} {v : V} {r : List (Key × V)} : valV ((.inr a, v) :: r) (.inr a : Key) = some v := valV_pos (p := ((.inr a : Key), v)) rfl
section
variable {R : Addr} {B : LB} {l : Int}
theorem mK_rows : valV (mK R B l) (.inr (Str.ofString "rows")) = some (.ref R) := vk_eq
theorem mK_taken : valV (mK R B l) (.inr (Str.ofString "taken")) = some (.ref B.Tk) := (vk_ne mk_nm.1.1).trans vk_eq
theorem mK_delays : valV (mK R B l) (.inr (Str.ofString "delays")) = some (.ref B.Dl) := (vk_ne mk_nm.1.2.1).trans ((vk_ne mk_nm.2.1.1).trans vk_eq)
theorem mK_keys : valV (mK R B l) (.inr (Str.ofString "keys")) = some (.ref B.Ky) := (vk_ne mk_nm.1.2.2.1).trans ((vk_ne mk_nm.2.1.2.1).trans ((vk_ne mk_nm.2.2.1.1).trans vk_eq))
theorem mK_longest : valV (mK R B l) (.inr (Str.ofString "longest")) = some (.int l) := (vk_ne mk_nm.1.2.2.2).trans ((vk_ne mk_nm.2.1.2.2).trans ((vk_ne mk_nm.2.2.1.2).trans ((vk_ne mk_nm.2.2.2).trans vk_eq)))
theorem mK_put {R' : Addr} : putK (mK R B l) (.inr (Str.ofString "rows")) (.ref R') = mK R' B l := by
  unfold putK
  rw [valV_any, mK_rows]
  rw [if_pos (show (some (V.ref R)).isSome = true from rfl)]
  have h : ∀ {a : Str} {v : V}, Str.ofString "rows" ≠ a → (if (Sum.inr a : Key) = Sum.inr (Str.ofString "rows") then ((Sum.inr a : Key), V.ref R') else ((Sum.inr a : Key), v)) = ((Sum.inr a : Key), v) := fun n => if_neg fun z => n (Sum.inr.inj z).symm
  unfold mK
  simp only [List.map_cons, List.map_nil]
  rw [if_pos trivial, h mk_nm.1.1, h mk_nm.1.2.1, h mk_nm.1.2.2.1, h mk_nm.1.2.2.2]
end
def keys5 : List Spot := [⟨["box", "x", "m"]⟩, ⟨["box", "x", "mm"]⟩, ⟨["box", "xx", "a"]⟩, ⟨["cup", "x", "m-s10"]⟩, ⟨["a", "x", "m-s9"]⟩]
structure MAt (H : Hp) (B : LB) (m : MS) : Prop where
  ob : ∃ R, H B.M = some (.dK (mK R B m.longest)) ∧ WAt H R m.rows
  taken : TabAt H B.Tk (fun v o => v = oI o) m.taken
  delays : TabAt H B.Dl (fun v i => v = .int i) m.delays
  keys : SpotsAt H B.Ky keys5
  td : B.Tk ≠ B.Dl
/-- all but the law's table and its dicts is as it was -/
def OffM (B : LB) (H H' : Hp) : Prop := ∀ b o, H b = some o → b ≠ B.M → b ≠ B.Tk → b ≠ B.Dl → H' b = some o
theorem OffM.refl (B : LB) (H : Hp) : OffM B H H := fun _ _ e _ _ _ => e
theorem OffM.trans {B : LB} {H H1 H2 : Hp} (x : OffM B H H1) (y : OffM B H1 H2) : OffM B H H2 := fun b o e a c d => y b o (x b o e a c d) a c d
theorem OffM.of {B : LB} {H H1 : Hp} (x : Same H H1) : OffM B H H1 := fun b o e _ _ _ => x b o e
def plainM : HO → Bool
  | .dT _ => false
  | .dK _ => false
  | _ => true
theorem MAt.off {H H' : Hp} {B : LB} {m : MS} (h : MAt H B m) (x : OffM B H H') {b : Addr} {o : HO} (at_ : H b = some o) (p : plainM o = true) : H' b = some o := by
  obtain ⟨R, e0, _⟩ := h.ob
  obtain ⟨k2, e2, _⟩ := h.taken
  obtain ⟨k3, e3, _⟩ := h.delays
  refine x b o at_ ?_ ?_ ?_
  · exact ne_of at_ e0 fun z => by rw [z] at p; cases p
  · exact ne_of at_ e2 fun z => by rw [z] at p; cases p
  · exact ne_of at_ e3 fun z => by rw [z] at p; cases p
theorem MAt.same {H H' : Hp} {B : LB} {m : MS} (h : MAt H B m) (s : Same H H') : MAt H' B m := by
  obtain ⟨⟨R, e0, w⟩, ⟨k2, e2, r2⟩, ⟨k3, e3, r3⟩, ⟨qs, e4, r4⟩, n⟩ := h
  exact ⟨⟨R, s _ _ e0, w.same s⟩, ⟨k2, s _ _ e2, r2⟩, ⟨k3, s _ _ e3, r3⟩, ⟨qs, s _ _ e4, Paired.mono (fun _ _ h => SpAt.same h s) r4⟩, n⟩
/-- a new list of rows -/
theorem MAt.setR {H : Hp} {B : LB} {m : MS} {R : Addr} {ws : WR} (h : MAt H B m) (w : WAt H R ws) : MAt (upd H B.M (.dK (mK R B m.longest))) B { m with rows := ws } ∧ OffM B H (upd H B.M (.dK (mK R B m.longest))) := by
  obtain ⟨⟨R0, e0, w0⟩, ⟨k2, e2, r2⟩, ⟨k3, e3, r3⟩, ⟨qs, e4, r4⟩, n⟩ := h
  obtain ⟨ps, gR, hp⟩ := w
  have tup : ∀ b ys, H b = some (.tup ys) → upd H B.M (.dK (mK R B m.longest)) b = some (.tup ys) := fun b ys hb => (upd_ne (ne_of hb e0 fun z => nomatch z)).trans hb
  refine ⟨⟨⟨R, upd_same, ps, (upd_ne (ne_of gR e0 fun z => nomatch z)).trans gR, Paired.mono (fun _ _ r => rowW_keep tup r) hp⟩, ⟨k2, (upd_ne (ne_of e2 e0 fun z => nomatch z)).trans e2, r2⟩, ⟨k3, (upd_ne (ne_of e3 e0 fun z => nomatch z)).trans e3, r3⟩, ⟨qs, (upd_ne (ne_of e4 e0 fun z => nomatch z)).trans e4, Paired.mono (fun _ _ r => tup _ _ r) r4⟩, n⟩, fun b o hb a c d => by rw [upd_ne a]; exact hb⟩
theorem MAt.setT {H : Hp} {B : LB} {m : MS} {kvs : List (List Key × V)} {es : List (Spot × Option Int)} (h : MAt H B m) (rows : Rows (fun v o => v = oI o) kvs es) : MAt (upd H B.Tk (.dT kvs)) B { m with taken := es } ∧ OffM B H (upd H B.Tk (.dT kvs)) := by
  obtain ⟨⟨R, e0, ps, gR, hp⟩, ⟨k2, e2, r2⟩, ⟨k3, e3, r3⟩, ⟨qs, e4, r4⟩, n⟩ := h
  have tup : ∀ b ys, H b = some (.tup ys) → upd H B.Tk (.dT kvs) b = some (.tup ys) := fun b ys hb => (upd_ne (ne_of hb e2 fun z => nomatch z)).trans hb
  refine ⟨⟨⟨R, (upd_ne (ne_of e0 e2 fun z => nomatch z)).trans e0, ps, (upd_ne (ne_of gR e2 fun z => nomatch z)).trans gR, Paired.mono (fun _ _ r => rowW_keep tup r) hp⟩, ⟨kvs, upd_same, rows⟩, ⟨k3, (upd_ne n.symm).trans e3, r3⟩, ⟨qs, (upd_ne (ne_of e4 e2 fun z => nomatch z)).trans e4, Paired.mono (fun _ _ r => tup _ _ r) r4⟩, n⟩, fun b o hb a c d => by rw [upd_ne c]; exact hb⟩
theorem MAt.setD {H : Hp} {B : LB} {m : MS} {kvs : List (List Key × V)} {es : List (Spot × Int)} (h : MAt H B m) (rows : Rows (fun v i => v = .int i) kvs es) : MAt (upd H B.Dl (.dT kvs)) B { m with delays := es } ∧ OffM B H (upd H B.Dl (.dT kvs)) := by
  obtain ⟨⟨R, e0, ps, gR, hp⟩, ⟨k2, e2, r2⟩, ⟨k3, e3, r3⟩, ⟨qs, e4, r4⟩, n⟩ := h
  have tup : ∀ b ys, H b = some (.tup ys) → upd H B.Dl (.dT kvs) b = some (.tup ys) := fun b ys hb => (upd_ne (ne_of hb e3 fun z => nomatch z)).trans hb
  refine ⟨⟨⟨R, (upd_ne (ne_of e0 e3 fun z => nomatch z)).trans e0, ps, (upd_ne (ne_of gR e3 fun z => nomatch z)).trans gR, Paired.mono (fun _ _ r => rowW_keep tup r) hp⟩, ⟨k2, (upd_ne n).trans e2, r2⟩, ⟨kvs, upd_same, rows⟩, ⟨qs, (upd_ne (ne_of e4 e3 fun z => nomatch z)).trans e4, Paired.mono (fun _ _ r => tup _ _ r) r4⟩, n⟩, fun b o hb a c d => by rw [upd_ne d]; exact hb⟩
end
def sp__law_enter (K : PySem.W.Frag) : Sp := fun vs H Q _ => ∃ (B : LB) (m : MS) (kb : Addr) (k : Spot) (t : Int), vs = [.ref B.M, .ref kb, .int t] ∧ MAt H B m ∧ SpAt H kb k ∧ m.rows.length < 50000 ∧ ∀ H', OffM B H H' → MAt H' B { m with rows := enterL m.rows k t } → Q .non H'
theorem ok__law_enter {P : Program} {w : World} {K : PySem.W.Frag} {mg : Str → Option Value} {base : Heap} {fd : FuncData} (T : Txt K mg w) (F : FnP K "_law_enter" s__law_enter [] fd) : FnOk P w K mg base CX0 1 (He.ga K "_law_enter") fd ps__law_enter (sp__law_enter K) := by
  refine F.ok sc__law_enter (fun vs H Q E h => ?len) (fun cdv A outer s H vs Q E hr h => ?body)
  case len => obtain ⟨B, m, kb, key, t, rfl, hm, hk, few, k⟩ := h; rfl
  case body =>
  obtain ⟨B, m, kb, key, t, rfl, hm, hk, few, k⟩ := h
  have hu := hu_of hr
  refine ⟨_, PSs.nox (pss_cons (ps_setLc (i := 3) (own := [("_law_row", 5)]) rfl sc__law_enter.nd rfl rfl (sw_true rfl rfl rfl (by decide +kernel)) (pi_list (pe_dget hu (pv 0) pe_str (fun _ _ => rfl))) (blkOk_by (own := [("_law_row", 5)]) (N := N__law_enter) (sc := defScope s__law_enter) (by decide +kernel)) (fun _ _ _ _ _ => (pg_name (i := 5) sc__law_enter.nd rfl (Or.inl rfl))) (fun _ _ _ _ _ => (pts_one (pt_cmpR (show OpR _ (compareOp .Eq) (rEqX K id) from op_eqX hr.units) (pe_ix (show IxR _ (rIxT K) from ix_tup) (pv 5) pe_int (fun _ _ => rfl)) (pv 1) (nomark _)))) (fun _ _ _ _ _ => (pv 5)))
    (pss_cons (ps_if (PW.pt (pw_and (pt_cmpR (show OpR _ (compareOp .NotEq) (rEqX K not) from op_neX hr.units) (pv 3) (pe_lst pa_nil) (nomark _)) (pw_and1 (pt_cmpR op_le (pe_ix ix_tup (pe_ix ix_list (pv 3) pe_int (fun _ _ => rfl)) pe_int (fun _ _ => rfl)) (pv 2) (nomark _))))) (pss_one ps_retN) pss_nil)
    (pss_cons (ps_dput hu (pv 0) pe_str (pe_lc (own := [("_law_row", 5)]) rfl sc__law_enter.nd (pi_list (pe_dget hu (pv 0) pe_str (fun _ _ => rfl))) (blkOk_by (own := [("_law_row", 5)]) (N := N__law_enter) (sc := defScope s__law_enter) (by decide +kernel)) (fun _ _ _ _ _ => (pg_name (i := 5) sc__law_enter.nd rfl (Or.inl rfl))) (fun _ _ _ _ _ => (pts_one (pt_cmpR (show OpR _ (compareOp .NotEq) (rEqX K not) from op_neX hr.units) (pe_ix (show IxR _ (rIxT K) from ix_tup) (pv 5) pe_int (fun _ _ => rfl)) (pv 1) (nomark _)))) (fun _ _ _ _ _ => (pv 5))) rfl)
    (pss_cons (ps_set (i := 4) sc__law_enter.nd rfl (Or.inl rfl) (pe_callB call_len_seq (by rfl) T.n_len (by decide +kernel) (pa_cons (pe_lc (own := [("_law_row", 5)]) rfl sc__law_enter.nd (pi_list (pe_dget hu (pv 0) pe_str (fun _ _ => rfl))) (blkOk_by (own := [("_law_row", 5)]) (N := N__law_enter) (sc := defScope s__law_enter) (by decide +kernel)) (fun _ _ _ _ _ => (pg_name (i := 5) sc__law_enter.nd rfl (Or.inl rfl))) (fun _ _ _ _ _ => (pts_one (pt_cmpR op_le (pe_ix (show IxR _ (rIxT K) from ix_tup) (pv 5) pe_int (fun _ _ => rfl)) (pv 2) (nomark _)))) (fun _ _ _ _ _ => (pv 5))) pa_nil)))
    (pss_one (ps_dput hu (pv 0) pe_str (pe_op op_cat (pe_op op_cat (pe_slice sl_list (pe_dget hu (pv 0) pe_str (fun _ _ => rfl)) po_none (po_some (pv 4))) (pe_lst (pa_cons (pe_tup (pa_cons (pv 2) (pa_cons (pv 1) pa_nil))) pa_nil))) (pe_slice sl_list (pe_dget hu (pv 0) pe_str (fun _ _ => rfl)) (po_some (pv 4)) po_none)) rfl)))))), ?_⟩
  have hu := hu_of hr
  obtain ⟨R, gM, ps, gR, hp⟩ := hm.ob
  have getR : DGet H B.M (.str "rows") (some (.ref R)) := by have := DGet.k (k := .inr (Str.ofString "rows")) gM; rwa [mK_rows] at this
  refine ⟨_, rfl, B.M, _, rfl, getR, R, rfl, ⟨_, SqL.of gR⟩, fun D hD => ?_⟩
  refine lc_pick (RR := RowW) rowW_keep (fun r : Int × Spot => decide (r.2 = key)) (ws := m.rows) gR hp hD (by omega) (fun p r H2 hr2 S2 ⟨q, h1, h2⟩ C E yes no => ?_) fun H2 qs S2 gD2 hq2 => ?_
  · refine ⟨rfl, ⟨_, rfl, p, _, 1, .ref q, rfl, rfl, SqT.of h1, atI_nat (j := 1) rfl, _, rfl, Spot, inferInstance, inferInstance, r.2, key, by decide, h2.dp, (hk.same S2).dp, _, rfl, ite2 (fun h => ⟨_, rfl, yes H2 (fun _ _ h => h) h⟩) fun h => no H2 (fun _ _ h => h) (Bool.not_eq_true _ |>.mp h)⟩⟩
  have hq2 : Paired (RowW H2) qs (knownL m.rows key) := hq2
  refine ⟨_, rfl, smallN (by show 0 ≤ 1000; decide), fun e he => ?_⟩
  have S3 := Same.new (u := .lst []) he
  have ge : upd H2 e (.lst []) e = some (.lst []) := upd_same
  have gD3 := S3 _ _ gD2
  have hq3 := pair_mono (G := RowW (upd H2 e (.lst []))) hq2 fun p r h => rowW_keep (fun b ys hb => S3 _ _ hb) h
  generalize upd H2 e (.lst []) = H3 at S3 ge gD3 hq3 ⊢
  have S03 := S2.trans S3
  clear S2 S3 gD2 hq2 he
  have hm3 := hm.same S03
  have hk3 := hk.same S03
  have O3 : OffM B H H3 := OffM.of S03
  have goIns : enterL m.rows key t = insAt (offK m.rows key) key t → tSeq (sDPut (tVar 0) (tC (.str "rows")) (tLc (iList K (tDGet (tVar 0) (tC (.str "rows")))) (gName 5) (tTest (tOp (rEqX K not) (tOp (rIxT K) (tVar 5) (tC (.int 1))) (tVar 1))) (tVar 5) [5])) (tSeq (tAsg (tCB (fun xs H_1 Q => ∃ p ys, xs = [V.ref p] ∧ (SqL K H_1 p ys ∨ SqT K H_1 p ys) ∧ Q (V.int ys.length) H_1) (tCons (tLc (iList K (tDGet (tVar 0) (tC (.str "rows")))) (gName 5) (tTest (tOp (rI0 fun i j => V.bl (decide (i ≤ j))) (tOp (rIxT K) (tVar 5) (tC (.int 0))) (tVar 2))) (tVar 5) [5]) tNil)) (gName 4)) (sDPut (tVar 0) (tC (.str "rows")) (tOp rCat (tOp rCat (tSl (rSlL K) (tDGet (tVar 0) (tC (.str "rows"))) tNoPart (tPart (tVar 4))) (tLst (tCons (tTup (tCons (tVar 2) (tCons (tVar 1) tNil))) tNil))) (tSl (rSlL K) (tDGet (tVar 0) (tC (.str "rows"))) (tPart (tVar 4)) tNoPart)))) { nx := fun x H' => Q V.non H', rt := Q } [some (.ref B.M), some (.ref kb), some (.int t), some (.ref D), none, none] H3 := fun ent => by
    obtain ⟨R, gM, ps, gR, hp⟩ := hm3.ob
    have getR : DGet H3 B.M (.str "rows") (some (.ref R)) := by have := DGet.k (k := .inr (Str.ofString "rows")) gM; rwa [mK_rows] at this
    refine ⟨_, rfl, B.M, _, rfl, getR, R, rfl, ⟨_, SqL.of gR⟩, fun D2 hD2 => ?_⟩
    refine lc_pick (RR := RowW) rowW_keep (fun r : Int × Spot => decide (¬ r.2 = key)) (ws := m.rows) gR hp hD2 (by omega) (fun p r H4 hr2 S4 ⟨q, h1, h2⟩ C E yes no => ?_) fun H4 qs4 S4 gD4 hq4 => ?_
    · refine ⟨rfl, ⟨_, rfl, p, _, 1, .ref q, rfl, rfl, SqT.of h1, atI_nat (j := 1) rfl, _, rfl, Spot, inferInstance, inferInstance, r.2, key, by decide, h2.dp, (hk3.same S4).dp, _, rfl, ite2 (fun h => ⟨_, rfl, yes H4 (fun _ _ h => h) (by rw [decide_not]; exact h)⟩) fun h => no H4 (fun _ _ h => h) (by rw [decide_not]; exact Bool.not_eq_true _ |>.mp h)⟩⟩
    have w4 : WAt H4 D2 (offK m.rows key) := ⟨qs4, gD4, hq4⟩
    have hm4 := hm3.same S4
    have hk4 := hk3.same S4
    obtain ⟨R4, gM4, _⟩ := hm4.ob
    refine ⟨_, rfl, B.M, _, rfl, DPut.k (k := .inr (Str.ofString "rows")) gM4 (by show 5 < sizeLine; rw [sizeLine_eq]; decide), ?_⟩
    rw [mK_put]
    obtain ⟨hm5, o5⟩ := hm4.setR w4
    have hk5 : SpAt _ kb key := hm4.off o5 hk4 rfl
    have O5 := (O3.trans (OffM.of S4)).trans o5
    generalize upd H4 B.M (.dK (mK D2 B m.longest)) = H5 at hm5 o5 hk5 O5 ⊢
    have lo : (offK m.rows key).length ≤ m.rows.length := List.length_filter_le _ _
    clear hm4 hk4 gM4 w4 gD4 hq4 S4 gM gR hp getR
    obtain ⟨R, gM, ps, gR, hp⟩ := hm5.ob
    have getR : DGet H5 B.M (.str "rows") (some (.ref R)) := by have := DGet.k (k := .inr (Str.ofString "rows")) gM; rwa [mK_rows] at this
    refine ⟨_, rfl, B.M, _, rfl, getR, R, rfl, ⟨_, SqL.of gR⟩, fun D6 hD6 => ?_⟩
    refine lc_pick (RR := RowW) rowW_keep (fun r : Int × Spot => decide (r.1 ≤ t)) (ws := offK m.rows key) gR hp hD6 (by omega) (fun p r H6 hr2 S6 ⟨q, h1, h2⟩ C E yes no => ?_) fun H6 qs6 S6 gD6 hq6 => ?_
    · exact ⟨rfl, ⟨_, rfl, p, _, 0, .int r.1, rfl, rfl, SqT.of h1, atI_nat (j := 0) rfl, _, rfl, _, _, rfl, rfl, _, rfl, ite2 (fun h => ⟨_, rfl, yes H6 (fun _ _ h => h) h⟩) fun h => no H6 (fun _ _ h => h) (Bool.not_eq_true _ |>.mp h)⟩⟩
    have l6 : ((qs6.map V.ref).length : Int) = (behind (offK m.rows key) t : Int) := by rw [List.length_map, pair_len hq6]; rfl
    refine ⟨D6, _, rfl, .inl (SqL.of gD6), ?_⟩
    rw [l6]
    have hm6 := hm5.same S6
    have hk6 := hk5.same S6
    have O6 := O5.trans (OffM.of S6)
    clear hm5 hk5 gM getR hp gR
    obtain ⟨R, gM, ps, gR, hp⟩ := hm6.ob
    have getR : ∀ H', Same H6 H' → DGet H' B.M (.str "rows") (some (.ref R)) := fun H' S => by have := DGet.k (k := .inr (Str.ofString "rows")) (S _ _ gM); rwa [mK_rows] at this
    refine ⟨_, rfl, B.M, _, rfl, getR H6 (fun _ _ h => h), _, rfl, _, rfl, R, _, rfl, SqL.of gR, fun p1 hp1 => ?_⟩
    rw [cut_take]
    have S7 := Same.new (u := .lst ((ps.map V.ref).take (behind (offK m.rows key) t))) hp1
    have g1 : upd H6 p1 (.lst ((ps.map V.ref).take (behind (offK m.rows key) t))) p1 = _ := upd_same
    generalize upd H6 p1 (.lst ((ps.map V.ref).take (behind (offK m.rows key) t))) = H7 at S7 g1 ⊢
    refine ⟨_, rfl, _, rfl, smallN (by show 2 ≤ 1000; decide), fun T hT => ?_⟩
    have S8 := Same.new (u := .tup [.int t, .ref kb]) hT
    have gT : upd H7 T (.tup [.int t, .ref kb]) T = _ := upd_same
    generalize upd H7 T (.tup [.int t, .ref kb]) = H8 at S8 gT ⊢
    refine ⟨smallN (by show 1 ≤ 1000; decide), fun p2 hp2 => ?_⟩
    have S9 := Same.new (u := .lst [.ref T]) hp2
    have g2 : upd H8 p2 (.lst [.ref T]) p2 = _ := upd_same
    generalize upd H8 p2 (.lst [.ref T]) = H9 at S9 g2 ⊢
    have g19 := S9 _ _ (S8 _ _ g1)
    have gT9 := S9 _ _ gT
    have S69 := S7.trans (S8.trans S9)
    have lps : ps.length = (offK m.rows key).length := pair_len hp
    refine ⟨p1, p2, _, _, rfl, rfl, g19, g2, small5 (by rw [List.length_take, List.length_map]; show _ + 1 ≤ _; omega), fun p3 hp3 => ?_⟩
    have S10 := Same.new (u := .lst ((ps.map V.ref).take (behind (offK m.rows key) t) ++ [.ref T])) hp3
    have g3 : upd H9 p3 (.lst ((ps.map V.ref).take (behind (offK m.rows key) t) ++ [.ref T])) p3 = _ := upd_same
    generalize upd H9 p3 (.lst ((ps.map V.ref).take (behind (offK m.rows key) t) ++ [.ref T])) = H10 at S10 g3 ⊢
    have S610 := S69.trans S10
    refine ⟨_, rfl, B.M, _, rfl, getR H10 S610, _, rfl, _, rfl, R, _, rfl, SqL.of (S610 _ _ gR), fun p4 hp4 => ?_⟩
    rw [cut_drop]
    have S11 := Same.new (u := .lst ((ps.map V.ref).drop (behind (offK m.rows key) t))) hp4
    have g4 : upd H10 p4 (.lst ((ps.map V.ref).drop (behind (offK m.rows key) t))) p4 = _ := upd_same
    generalize upd H10 p4 (.lst ((ps.map V.ref).drop (behind (offK m.rows key) t))) = H11 at S11 g4 ⊢
    refine ⟨p3, p4, _, _, rfl, rfl, S11 _ _ g3, g4, small5 (by rw [List.length_append, List.length_take, List.length_drop, List.length_map]; show _ + 1 + _ ≤ _; omega), fun p5 hp5 => ?_⟩
    have S12 := Same.new (u := .lst ((ps.map V.ref).take (behind (offK m.rows key) t) ++ [.ref T] ++ (ps.map V.ref).drop (behind (offK m.rows key) t))) hp5
    have g5 : upd H11 p5 (.lst ((ps.map V.ref).take (behind (offK m.rows key) t) ++ [.ref T] ++ (ps.map V.ref).drop (behind (offK m.rows key) t))) p5 = _ := upd_same
    generalize upd H11 p5 (.lst ((ps.map V.ref).take (behind (offK m.rows key) t) ++ [.ref T] ++ (ps.map V.ref).drop (behind (offK m.rows key) t))) = H12 at S12 g5 ⊢
    have S612 := S610.trans (S11.trans S12)
    have hT12 := S12 _ _ (S11 _ _ (S10 _ _ gT9))
    have rowT : RowW H12 T (t, key) := ⟨kb, hT12, hk6.same S612⟩
    have w12 : WAt H12 p5 (insAt (offK m.rows key) key t) := by
      refine ⟨ps.take (behind (offK m.rows key) t) ++ [T] ++ ps.drop (behind (offK m.rows key) t), by rw [g5, List.map_append, List.map_append, List.map_take, List.map_drop]; rfl, ?_⟩
      have hp12 := pair_mono (G := RowW H12) hp fun p r h => rowW_keep (fun b ys hb => S612 _ _ hb) h
      exact paired_app (paired_app (paired_take _ hp12) (.cons rowT .nil)) (paired_drop _ hp12)
    obtain ⟨hm13, o13⟩ := (hm6.same S612).setR w12
    obtain ⟨R', gM', _⟩ := (hm6.same S612).ob
    refine ⟨_, rfl, B.M, _, rfl, DPut.k (k := .inr (Str.ofString "rows")) gM' (by show 5 < sizeLine; rw [sizeLine_eq]; decide), ?_⟩
    rw [mK_put]
    exact k _ ((O6.trans (OffM.of S612)).trans o13) (by rw [ent]; exact hm13)
  cases hkn : knownL m.rows key with
  | nil =>
    rw [hkn] at hq3
    cases hq3
    refine ⟨WR, inferInstance, inferInstance, [], [], by decide, .lst (SqL.of gD3) .nil, .lst (SqL.of ge) .nil, _, rfl, iteF (iteF (goIns (by unfold enterL; rw [hkn])))⟩
  | cons r0 rs =>
    rw [hkn] at hq3
    cases hq3 with
    | @cons q0 _ qs _ h0 hrest =>
      refine ⟨WR, inferInstance, inferInstance, r0 :: rs, [], by decide, .lst (SqL.of gD3) (ws_dp (.cons h0 hrest)), .lst (SqL.of ge) .nil, _, rfl, iteT ?_⟩
      obtain ⟨q, h1, h2⟩ := id h0
      refine ⟨_, rfl, D, _, 0, .ref q0, rfl, rfl, SqL.of gD3, atI_nat (j := 0) rfl, q0, _, 0, .int r0.1, rfl, rfl, SqT.of h1, atI_nat (j := 0) rfl, _, rfl, _, _, rfl, rfl, _, rfl, ite2 (fun h => ?_) (fun h => ?_)⟩
      · exact k H3 O3 (by unfold enterL; rw [hkn]; show MAt H3 B { m with rows := if r0.1 ≤ t then _ else _ }; rw [if_pos (of_decide_eq_true h)]; exact hm3)
      · exact goIns (by unfold enterL; rw [hkn]; exact if_neg fun z => h (decide_eq_true z))

/-! ### added, ended -/
section
variable {H : Hp} {B : LB} {m : MS}
theorem MAt.gR (h : MAt H B m) : ∃ R, DGet H B.M (.str "rows") (some (.ref R)) ∧ WAt H R m.rows := by
  obtain ⟨R, g, w⟩ := h.ob
  exact ⟨R, (by have := DGet.k (k := .inr (Str.ofString "rows")) g; rwa [mK_rows] at this), w⟩
theorem MAt.gT (h : MAt H B m) : DGet H B.M (.str "taken") (some (.ref B.Tk)) := by
  obtain ⟨R, g, w⟩ := h.ob
  have := DGet.k (k := .inr (Str.ofString "taken")) g; rwa [mK_taken] at this
theorem MAt.gD (h : MAt H B m) : DGet H B.M (.str "delays") (some (.ref B.Dl)) := by
  obtain ⟨R, g, w⟩ := h.ob
  have := DGet.k (k := .inr (Str.ofString "delays")) g; rwa [mK_delays] at this
theorem MAt.gK (h : MAt H B m) : DGet H B.M (.str "keys") (some (.ref B.Ky)) := by
  obtain ⟨R, g, w⟩ := h.ob
  have := DGet.k (k := .inr (Str.ofString "keys")) g; rwa [mK_keys] at this
theorem MAt.gL (h : MAt H B m) : DGet H B.M (.str "longest") (some (.int m.longest)) := by
  obtain ⟨R, g, w⟩ := h.ob
  have := DGet.k (k := .inr (Str.ofString "longest")) g; rwa [mK_longest] at this
end
def newT (t : Int) : Option Int → Int
  | none => t
  | some u => if u ≤ t then u else t
def addM (m : MS) (k : Spot) (t : Int) : MS := match getS m.taken k with
  | some o => { m with taken := putS m.taken k (some (newT t o)) }
  | none => { m with rows := enterL m.rows k t }
def endM (m : MS) (k : Spot) : MS := match getS m.taken k with
  | some (some t) => { m with taken := dropS m.taken k, rows := enterL m.rows k t }
  | _ => { m with taken := dropS m.taken k }
structure FewM (m : MS) : Prop where
  r : m.rows.length < 40000
  t : m.taken.length < 40000
  d : m.delays.length < 40000
def sp__law_added (K : PySem.W.Frag) : Sp := fun vs H Q _ => ∃ (B : LB) (m : MS) (kb : Addr) (k : Spot) (t : Int), vs = [.ref B.M, .ref kb, .int t] ∧ MAt H B m ∧ SpAt H kb k ∧ FewM m ∧ ∀ H', OffM B H H' → MAt H' B (addM m k t) → Q .non H'
theorem ok__law_added {P : Program} {w : World} {K : PySem.W.Frag} {mg : Str → Option Value} {base : Heap} {fd : FuncData} (T : Txt K mg w) (F : FnP K "_law_added" s__law_added [] fd) : FnOk P w K mg base CX0 2 (He.ga K "_law_added") fd ps__law_added (sp__law_added K) := by
  obtain ⟨fd__law_enter, F__law_enter⟩ := T.d__law_enter
  have G__law_enter := ok__law_enter (P := P) (w := w) (base := base) T F__law_enter
  have k__law_enter := F__law_enter.kp
  have b__law_enter := bi__law_enter F__law_enter
  refine F.ok sc__law_added (fun vs H Q E h => ?len) (fun cdv A outer s H vs Q E hr h => ?body)
  case len => obtain ⟨B, m, kb, key, t, rfl, hm, hk, few, k⟩ := h; rfl
  case body =>
  obtain ⟨B, m, kb, key, t, rfl, hm, hk, few, k⟩ := h
  have hu := hu_of hr
  refine ⟨_, PSs.nox (pss_one (ps_if (pt_cmp (pc_din hu (pv 1) (pe_dget hu (pv 0) pe_str (fun _ _ => rfl)))) (pss_cons (ps_set (i := 3) sc__law_added.nd rfl (Or.inl rfl) (pe_dget hu (pe_dget hu (pv 0) pe_str (fun _ _ => rfl)) (pv 1) (fun _ _ => rfl)))
      (pss_one (ps_expr (pe_bm PySem.F.plainAttrs_dict PySem.F.slot_dict_update PySem.F.type_dict_update (mt_updT hu) (pe_dget hu (pv 0) pe_str (fun _ _ => rfl)) (pa_cons (pe_dispT hu (pv 1) (pe_ix ix_list (pe_lst (pa_cons (pv 2) (pa_cons (pv 3) pa_nil))) (pe_callTy call_int1 (by rfl) T.n_int (by decide +kernel) (pa_cons (pe_and (pe_cmpR op_notN (pv 3) pe_non (nomark _)) (pe_one (pe_cmpR op_le (pv 3) (pv 2) (nomark _)))) pa_nil)) (fun _ _ => rfl))) pa_nil))))) (pss_one (ps_expr (pe_call G__law_enter (hr.mono (by first | decide | omega)) rfl T.g__law_enter k__law_enter b__law_enter .nil pass0 (pa_cons (pv 0) (pa_cons (pv 1) (pa_cons (pv 2) pa_nil)))))))), ?_⟩
  have hu := hu_of hr
  obtain ⟨kvs, gt, rows⟩ := hm.taken
  have get_ := DGet.t gt hk.key
  refine ⟨_, rfl, _, rfl, B.M, _, rfl, hm.gT, B.Tk, _, rfl, get_, ?_⟩
  rcases rows.get key with ⟨n1, n2⟩ | ⟨x, v, e1, e2, rfl⟩
  · rw [n2]
    refine ⟨_, rfl, iteF ⟨_, rfl, _, rfl, _, rfl, B, m, kb, key, t, rfl, hm, hk, by have := few.r; omega, fun H2 O2 h2 => k H2 O2 ?_⟩⟩
    unfold addM; rw [n1]; exact h2
  · rw [e2] at get_ ⊢
    refine ⟨_, rfl, iteT ⟨_, rfl, B.M, _, rfl, hm.gT, _, rfl, B.Tk, _, rfl, get_, ?_⟩⟩
    refine ⟨_, rfl, B.M, _, rfl, hm.gT, .inr (.inr (.inl ⟨rfl, .inr ⟨_, gt⟩⟩)), fun p hp => ⟨_, rfl, _, rfl, _, rfl, smallN (by show 2 ≤ 1000; decide), fun l hl => ?_⟩⟩
    have Sp := Same.new (u := .dT []) hp
    have gp : upd H p (.dT []) p = _ := upd_same
    generalize upd H p (.dT []) = H1 at Sp gp hl ⊢
    have Sl := Same.new (u := .lst [.int t, oI x]) hl
    have gl : upd H1 l (.lst [.int t, oI x]) l = _ := upd_same
    generalize upd H1 l (.lst [.int t, oI x]) = H2 at Sl gl ⊢
    have S2 := Sp.trans Sl
    have fin : ∀ z : Int, newT t x = z → ∃ (q : Addr) (kk' : List Key), V.ref kb = .ref q ∧ H2 p = some (.dT []) ∧ H2 q = some (.tup (kk'.map kV)) ∧ rUpdT (.ref B.Tk) [.ref p] (upd H2 p (.dT [(kk', .int z)])) Q := fun z ez => by
      refine ⟨kb, kk key, rfl, Sl _ _ gp, (hk.same S2).key, ?_⟩
      have npT : B.Tk ≠ p := ne_of_none gt hp
      have S3 : Same H (upd H2 p (.dT [(kk key, .int z)])) := fun b o hb => (upd_ne (ne_of_none hb hp)).trans (S2 _ _ hb)
      have g3 : upd H2 p (.dT [(kk key, .int z)]) p = _ := upd_same
      generalize upd H2 p (.dT [(kk key, .int z)]) = H3 at S3 g3 ⊢
      obtain ⟨h4, o4⟩ := (hm.same S3).setT (rows.put key (v := .int z) (a := some z) rfl)
      refine ⟨B.Tk, p, kvs, kk key, _, rfl, rfl, npT, S3 _ _ gt, g3, by rw [rows.length]; exact small5' (by have := few.t; omega), k _ ((OffM.of S3).trans o4) ?_⟩
      unfold addM; rw [e1, ← ez] at *; exact h4
    cases x with
    | none => exact ⟨_, rfl, rfl, _, rfl, iteF (.inr ⟨_, rfl, l, _, 0, .int t, rfl, rfl, SqL.of gl, atI_nat (j := 0) rfl, fin t rfl⟩)⟩
    | some u =>
      refine ⟨_, rfl, rfl, _, rfl, iteT ⟨_, rfl, _, rfl, _, _, rfl, rfl, .inr ⟨_, rfl, ?_⟩⟩⟩
      by_cases h : u ≤ t
      · rw [decide_eq_true h]
        exact ⟨l, _, 1, .int u, rfl, rfl, SqL.of gl, atI_nat (j := 1) rfl, fin u (if_pos h)⟩
      · rw [decide_eq_false h]
        exact ⟨l, _, 0, .int t, rfl, rfl, SqL.of gl, atI_nat (j := 0) rfl, fin t (if_neg h)⟩
def sp__law_ended (K : PySem.W.Frag) : Sp := fun vs H Q _ => ∃ (B : LB) (m : MS) (kb : Addr) (k : Spot), vs = [.ref B.M, .ref kb] ∧ MAt H B m ∧ SpAt H kb k ∧ FewM m ∧ (getS m.taken k).isSome = true ∧ ∀ H', OffM B H H' → MAt H' B (endM m k) → Q .non H'
theorem ok__law_ended {P : Program} {w : World} {K : PySem.W.Frag} {mg : Str → Option Value} {base : Heap} {fd : FuncData} (T : Txt K mg w) (F : FnP K "_law_ended" s__law_ended [] fd) : FnOk P w K mg base CX0 2 (He.ga K "_law_ended") fd ps__law_ended (sp__law_ended K) := by
  obtain ⟨fd__law_enter, F__law_enter⟩ := T.d__law_enter
  have G__law_enter := ok__law_enter (P := P) (w := w) (base := base) T F__law_enter
  have k__law_enter := F__law_enter.kp
  have b__law_enter := bi__law_enter F__law_enter
  refine F.ok sc__law_ended (fun vs H Q E h => ?len) (fun cdv A outer s H vs Q E hr h => ?body)
  case len => obtain ⟨B, m, kb, key, rfl, hm, hk, few, there, k⟩ := h; rfl
  case body =>
  obtain ⟨B, m, kb, key, rfl, hm, hk, few, there, k⟩ := h
  have hu := hu_of hr
  refine ⟨_, PSs.nox (pss_cons (ps_set (i := 2) sc__law_ended.nd rfl (Or.inl rfl) (pe_bm PySem.F.plainAttrs_dict PySem.F.slot_dict_pop PySem.F.type_dict_pop (mt_pop1T hu) (pe_dget hu (pv 0) pe_str (fun _ _ => rfl)) (pa_cons (pv 1) pa_nil)))
    (pss_one (ps_if (pt_cmpR op_notN (pv 2) pe_non (nomark _)) (pss_one (ps_expr (pe_call G__law_enter (hr.mono (by first | decide | omega)) rfl T.g__law_enter k__law_enter b__law_enter .nil pass0 (pa_cons (pv 0) (pa_cons (pv 1) (pa_cons (pv 2) pa_nil)))))) pss_nil))), ?_⟩
  have hu := hu_of hr
  obtain ⟨kvs, gt, rows⟩ := hm.taken
  refine ⟨_, rfl, B.M, _, rfl, hm.gT, .inr (.inr (.inl ⟨rfl, .inr ⟨_, gt⟩⟩)), _, rfl, ?_⟩
  rcases rows.get key with ⟨n1, n2⟩ | ⟨x, v, e1, e2, rfl⟩
  · rw [n1] at there; cases there
  refine ⟨B.Tk, kb, kvs, kk key, _, rfl, rfl, gt, hk.key, e2, ?_⟩
  obtain ⟨h2, o2⟩ := hm.setT (rows.drop key)
  have hk2 : SpAt (upd H B.Tk (.dT (dropK kvs (kk key)))) kb key := hm.off o2 hk rfl
  generalize upd H B.Tk (.dT (dropK kvs (kk key))) = H2 at h2 o2 hk2 ⊢
  cases x with
  | none => exact ⟨_, rfl, rfl, _, rfl, iteF (k H2 o2 (by unfold endM; rw [e1]; exact h2))⟩
  | some u =>
    refine ⟨_, rfl, rfl, _, rfl, iteT ⟨_, rfl, _, rfl, _, rfl, B, _, kb, key, u, rfl, h2, hk2, by have := few.r; show m.rows.length < _; omega, fun H3 O3 h3 => k H3 (o2.trans O3) ?_⟩⟩
    unfold endM; rw [e1]; exact h3

/-! ### the queue tells what the law knows -/
theorem spots_dp {K : PySem.W.Frag} {H : Hp} {qs : List Addr} {ks : List Spot} (h : Paired (SpAt H) qs ks) : DpAll K H (qs.map V.ref) (ks.map PySem.W.Datum.toD) := by
  induction h with
  | nil => exact .nil
  | cons r _ more => exact .cons r.dp more
theorem SpotsAt.dp {K : PySem.W.Frag} {H : Hp} {L : Addr} {ks : List Spot} (h : SpotsAt H L ks) : Dp K H (.ref L) (PySem.W.Datum.toD ks) := have ⟨_, a, b⟩ := h; .lst (SqL.of a) (spots_dp b)
theorem SpotsAt.same {H H' : Hp} {L : Addr} {ks : List Spot} (h : SpotsAt H L ks) (s : Same H H') : SpotsAt H' L ks := have ⟨qs, a, b⟩ := h; ⟨qs, s _ _ a, Paired.mono (fun _ _ r => SpAt.same r s) b⟩
theorem ints_dp {K : PySem.W.Frag} {H : Hp} {L : Addr} {is : List Int} (h : H L = some (.lst (is.map V.int))) : Dp K H (.ref L) (PySem.W.Datum.toD is) := by
  refine .lst (SqL.of h) ?_
  clear h
  induction is with
  | nil => exact .nil
  | cons x r more => exact .cons (.int x) more
theorem spAt_keep : TupRel SpAt := fun k h => k _ _ h
/-- the law knows all of the queue -/
structure Knows (s : QS) (m : MS) : Prop where
  good : Good s
  rows : m.rows = wr s
  taken : m.taken = s.taken
  delays : m.delays = s.delays
  longest : m.longest = s.longest
  okE : ∀ e ∈ s.ents, okKey e.1 = true
  okT : ∀ e ∈ s.taken, okKey e.1 = true
  onceT : (s.taken.map (·.1)).Nodup
  nat : ∀ e ∈ s.delays, 0 ≤ e.2
  long : 0 ≤ s.longest
theorem keys_ok : keys5.all okKey = true := by decide +kernel
def sp__law_stands (K : PySem.W.Frag) : Sp := fun vs H Q _ => ∃ (A : QA) (s : QS) (B : LB) (m : MS), vs = [.ref A.q, .ref B.M] ∧ QAt K H A s ∧ MAt H B m ∧ Knows s m ∧ Small s ∧ ∀ H', Same H H' → Q (.bl true) H'
theorem ok__law_stands {P : Program} {w : World} {K : PySem.W.Frag} {mg : Str → Option Value} {base : Heap} {fd : FuncData} (T : Txt K mg w) (F : FnP K "_law_stands" s__law_stands [] fd) : FnOk P w K mg base CX0 55 (He.ga K "_law_stands") fd ps__law_stands (sp__law_stands K) := by
  obtain ⟨fd_Queue_next_time, F_Queue_next_time⟩ := T.d_Queue_next_time
  have G_Queue_next_time := ok_Queue_next_time (P := P) (w := w) (base := base) T F_Queue_next_time
  have k_Queue_next_time := F_Queue_next_time.kp
  have b_Queue_next_time := bi_Queue_next_time F_Queue_next_time
  obtain ⟨fd_Queue_waiting, F_Queue_waiting⟩ := T.d_Queue_waiting
  have G_Queue_waiting := ok_Queue_waiting (P := P) (w := w) (base := base) T F_Queue_waiting
  have k_Queue_waiting := F_Queue_waiting.kp
  have b_Queue_waiting := bi_Queue_waiting F_Queue_waiting
  obtain ⟨fd_Queue_working, F_Queue_working⟩ := T.d_Queue_working
  have G_Queue_working := ok_Queue_working (P := P) (w := w) (base := base) T F_Queue_working
  have k_Queue_working := F_Queue_working.kp
  have b_Queue_working := bi_Queue_working F_Queue_working
  obtain ⟨fd_Queue_delay, F_Queue_delay⟩ := T.d_Queue_delay
  have G_Queue_delay := ok_Queue_delay (P := P) (w := w) (base := base) T F_Queue_delay
  have k_Queue_delay := F_Queue_delay.kp
  have b_Queue_delay := bi_Queue_delay F_Queue_delay
  refine F.ok sc__law_stands (fun vs H Q E h => ?len) (fun cdv A outer s H vs Q E hr h => ?body)
  case len => obtain ⟨A, s, B, m, rfl, hq, hm, kn, few, k⟩ := h; rfl
  case body =>
  obtain ⟨A, s, B, m, rfl, hq, hm, kn, few, k⟩ := h
  have hu := hu_of hr
  refine ⟨_, PSs.nox (pss_cons (ps_if (PW.pt (pw_or (pt_cmpR (show OpR _ (compareOp .NotEq) (rEqX K not) from op_neX hr.units) (pe_meth0 (pv 0) T.cl_Queue T.m_Queue_waiting G_Queue_waiting (hr.mono (by first | decide | omega)) b_Queue_waiting .nil pass0) (pe_dget hu (pv 1) pe_str (fun _ _ => rfl)) (nomark _)) (pw_or1 (pt_cmpR (show OpR _ (compareOp .NotEq) (rEqX K not) from op_neX hr.units) (pe_meth0 (pv 0) T.cl_Queue T.m_Queue_working G_Queue_working (hr.mono (by first | decide | omega)) b_Queue_working .nil pass0) (pe_callB (cr_sortT rfl hr.units) (by rfl) T.n_sorted (by decide +kernel) (pa_cons (pe_dget hu (pv 1) pe_str (fun _ _ => rfl)) pa_nil)) (nomark _))))) (pss_one (ps_ret pe_bl)) pss_nil)
    (pss_cons (ps_if (pt_cmpR (show OpR _ (compareOp .NotEq) (rEqX K not) from op_neX hr.units) (pe_meth0 (pv 0) T.cl_Queue T.m_Queue_next_time G_Queue_next_time (hr.mono (by first | decide | omega)) b_Queue_next_time .nil pass0) (pe_ifExp (pt_cmpR (show OpR _ (compareOp .NotEq) (rEqX K not) from op_neX hr.units) (pe_dget hu (pv 1) pe_str (fun _ _ => rfl)) (pe_lst pa_nil) (nomark _)) (pe_ix ix_tup (pe_ix ix_list (pe_dget hu (pv 1) pe_str (fun _ _ => rfl)) pe_int (fun _ _ => rfl)) pe_int (fun _ _ => rfl)) pe_non) (nomark _)) (pss_one (ps_ret pe_bl)) pss_nil)
    (pss_one (ps_ret (pe_cmpR (show OpR _ (compareOp .Eq) (rEqX K id) from op_eqX hr.units) (pe_lc (own := [("_law_spot", 2)]) rfl sc__law_stands.nd (pi_list (pe_dget hu (pv 1) pe_str (fun _ _ => rfl))) (blkOk_by (own := [("_law_spot", 2)]) (N := N__law_stands) (sc := defScope s__law_stands) (by decide +kernel)) (fun _ _ _ _ _ => (pg_name (i := 2) sc__law_stands.nd rfl (Or.inl rfl))) (fun _ _ _ _ _ => pts_nil) (fun _ _ _ _ _ => (pe_meth (pv 0) T.cl_Queue T.m_Queue_delay G_Queue_delay (hr.mono (by first | decide | omega)) b_Queue_delay .nil pass0 (pa_cons (pv 2) pa_nil)))) (pe_lc (own := [("_law_spot", 2)]) rfl sc__law_stands.nd (pi_list (pe_dget hu (pv 1) pe_str (fun _ _ => rfl))) (blkOk_by (own := [("_law_spot", 2)]) (N := N__law_stands) (sc := defScope s__law_stands) (by decide +kernel)) (fun _ _ _ _ _ => (pg_name (i := 2) sc__law_stands.nd rfl (Or.inl rfl))) (fun _ _ _ _ _ => pts_nil) (fun _ _ _ _ _ => (pe_dget2 hu (pe_dget hu (pv 1) pe_str (fun _ _ => rfl)) (pv 2) pe_int ⟨rfl, rfl, rfl, rfl⟩))) (nomark _)))))), ?_⟩
  have hu := hu_of hr
  refine ⟨_, rfl, A.q, A.dx, _, rfl, hq.ob, qF_no (by decide +kernel), A, s, rfl, hq, few, fun L1 H1 hL1 S1 w1 => ?_⟩
  have hq1 := hq.same S1
  have hm1 := hm.same S1
  obtain ⟨R, getR, wR⟩ := hm1.gR
  rw [kn.rows] at wR
  refine ⟨_, rfl, B.M, _, rfl, getR, WR, inferInstance, inferInstance, wr s, wr s, by decide, w1.w.dp, wR.dp, _, rfl, ?_⟩
  rw [decide_eq_true rfl]
  refine iteF ⟨_, rfl, A.q, A.dx, _, rfl, hq1.ob, qF_no (by decide +kernel), A, s, rfl, hq1, kn.okT, fun L2 H2 hL2 S2 w2 => ?_⟩
  have hq2 := hq1.same S2
  have hm2 := hm1.same S2
  obtain ⟨kvs, gt, rows⟩ := hm2.taken
  rw [kn.taken] at rows
  refine ⟨_, rfl, B.M, _, rfl, hm2.gT, B.Tk, kvs, s.taken.map (·.1), rfl, gt, rows.keys, fun k hk => ?_, fun p out hp po => ?_⟩
  · obtain ⟨e, he, rfl⟩ := List.mem_map.mp hk
    exact ok_full (kn.okT e he)
  obtain ⟨qs, rfl, hqs⟩ := out_spots po
  have S3 := Same.new (u := .lst (qs.map V.ref)) hp
  have g3 : upd H2 p (.lst (qs.map V.ref)) p = _ := upd_same
  generalize upd H2 p (.lst (qs.map V.ref)) = H3 at S3 g3 ⊢
  have w3 : SpotsAt H3 p s.working := ⟨qs, g3, pair_mono hqs fun _ _ h => SpAt.same h S3⟩
  refine ⟨List Spot, inferInstance, inferInstance, s.working, s.working, by decide, (w2.same S3).dp, w3.dp, _, rfl, ?_⟩
  rw [decide_eq_true rfl]
  refine iteF ?_
  have hq3 := hq2.same S3
  have hm3 := hm2.same S3
  have S03 := (S1.trans S2).trans S3
  refine ⟨_, rfl, A.q, A.dx, _, rfl, hq3.ob, qF_no (by decide +kernel), A, s, rfl, hq3, few, fun H4 S4 => ?_⟩
  have hq4 := hq3.same S4
  have hm4 := hm3.same S4
  have S04 := S03.trans S4
  obtain ⟨R4, getR4, wR4⟩ := hm4.gR
  rw [kn.rows] at wR4
  refine ⟨_, rfl, B.M, _, rfl, getR4, smallN (by show 0 ≤ 1000; decide), fun e he => ?_⟩
  have S5 := Same.new (u := .lst []) he
  have ge : upd H4 e (.lst []) e = _ := upd_same
  generalize upd H4 e (.lst []) = H5 at S5 ge ⊢
  have hq5 := hq4.same S5
  have hm5 := hm4.same S5
  have S05 := S04.trans S5
  have wR5 := wR4.same S5
  refine ⟨WR, inferInstance, inferInstance, wr s, [], by decide, wR5.dp, .lst (SqL.of ge) .nil, _, rfl, ?_⟩
  have last_ : tRet (tOp (rEqX K id) (tLc (iList K (tDGet (tVar 1) (tC (.str "keys")))) (gName 2) tYes (tMeth (He.ga K "Queue") "delay" (sp_Queue_delay K) [] E0 (tVar 0) (tCons (tVar 2) tNil)) [2]) (tLc (iList K (tDGet (tVar 1) (tC (.str "keys")))) (gName 2) tYes (tDGet2 (tDGet (tVar 1) (tC (.str "delays"))) (tVar 2) (tC (.int 1))) [2])) { nx := fun x H' => Q V.non H', rt := Q } [some (.ref A.q), some (.ref B.M), none] H5 := by
    obtain ⟨qs, gK, hK⟩ := hm5.keys
    refine ⟨_, rfl, B.M, _, rfl, hm5.gK, B.Ky, rfl, ⟨_, SqL.of gK⟩, fun D1 hD1 => ?_⟩
    refine lc_make (RR := SpAt) spAt_keep (fun k => V.int (s.delay k)) gK hK hD1 (by decide) (fun p r H6 hr6 S6 h6 C yes => ?_) (fun H6 S6 gD6 => ?_) gName_mono
    · exact ⟨rfl, _, rfl, A.q, A.dx, _, rfl, (hq5.same S6).ob, qF_no (by decide +kernel), _, rfl, A, s, p, r, rfl, hq5.same S6, h6, List.all_eq_true.mp keys_ok r hr6, fun H7 S7 => yes H7 S7⟩
    have hm6 := hm5.same S6
    obtain ⟨qs6, gK6, hK6⟩ := hm6.keys
    obtain ⟨kd, gd, rd⟩ := hm6.delays
    rw [kn.delays] at rd
    refine ⟨_, rfl, B.M, _, rfl, hm6.gK, B.Ky, rfl, ⟨_, SqL.of gK6⟩, fun D2 hD2 => ?_⟩
    refine lc_make (RR := SpAt) spAt_keep (fun k => V.int (s.delay k)) gK6 hK6 hD2 (by decide) (fun p r H7 hr7 S7 h7 C yes => ?_) (fun H7 S7 gD7 => ?_) gName_mono
    · refine ⟨rfl, _, rfl, B.M, _, rfl, (hm6.same S7).gD, B.Dl, rfl, .inr ⟨_, .inl (S7 _ _ gd)⟩, _, rfl, _, DGet.t (S7 _ _ gd) h7.key, ?_⟩
      have q := yes H7 (fun _ _ h => h)
      unfold QS.delay at q
      rcases rd.get r with ⟨n1, n2⟩ | ⟨x, v, e1, e2, rfl⟩
      · rw [n2]; rw [n1] at q; exact q
      · rw [e2]; rw [e1] at q; exact q
    have d6 : H7 D1 = some (.lst ((keys5.map s.delay).map V.int)) := by rw [List.map_map]; exact S7 _ _ gD6
    have d7 : H7 D2 = some (.lst ((keys5.map s.delay).map V.int)) := by rw [List.map_map]; exact gD7
    refine ⟨List Int, inferInstance, inferInstance, keys5.map s.delay, keys5.map s.delay, by decide, ints_dp d6, ints_dp d7, ?_⟩
    rw [decide_eq_true rfl]
    exact k H7 ((S05.trans S6).trans S7)
  have nx := next_wr kn.good
  cases hw : wr s with
  | nil =>
    rw [hw] at nx
    have nx : s.next = none := nx
    rw [nx]
    refine iteF ⟨Unit, inferInstance, inferInstance, (), (), by decide, .non, .non, _, rfl, ?_⟩
    exact iteF last_
  | cons r0 rs =>
    rw [hw] at nx wR5
    have nx : s.next = some r0.1 := nx
    rw [nx]
    obtain ⟨R6, getR6, w6⟩ := hm5.gR
    rw [kn.rows, hw] at w6
    obtain ⟨ps, gR6, hp6⟩ := w6
    cases hp6 with
    | @cons p0 _ ps _ h0 hrest =>
      obtain ⟨q, h1, h2⟩ := h0
      refine iteT ⟨_, rfl, B.M, _, rfl, getR6, R6, _, 0, .ref p0, rfl, rfl, SqL.of gR6, atI_nat (j := 0) rfl, p0, _, 0, .int r0.1, rfl, rfl, SqT.of h1, atI_nat (j := 0) rfl, Int, inferInstance, inferInstance, r0.1, r0.1, by decide, .int _, .int _, _, rfl, ?_⟩
      rw [decide_eq_true rfl]
      exact iteF last_

/-! ### what the law knows, call by call -/
theorem ok_put {α : Type} {es : List (Spot × α)} {k : Spot} {a : α} (h : ∀ e ∈ es, okKey e.1 = true) (hk : okKey k = true) : ∀ e ∈ putS es k a, okKey e.1 = true := by
  intro e he
  have : e.1 ∈ (putS es k a).map (·.1) := List.mem_map_of_mem he
  rw [putS_keys] at this
  have old : e.1 ∈ es.map (·.1) → okKey e.1 = true := fun h' => by
    obtain ⟨f, hf, q⟩ := List.mem_map.mp h'
    rw [← q]; exact h f hf
  split at this
  · exact old this
  · rcases List.mem_append.mp this with h' | h'
    · exact old h'
    · rw [List.mem_singleton.mp h']; exact hk
theorem okE_put {s : QS} (h : ∀ e ∈ s.ents, okKey e.1 = true) {k : Spot} (hk : okKey k = true) (t : Int) : ∀ e ∈ (s.put k t).ents, okKey e.1 = true := by
  unfold QS.put
  rcases getS s.ents k with _ | x
  · exact ok_put h hk
  · show ∀ e ∈ (if t < x.1 then s.bump k t else s).ents, okKey e.1 = true
    split
    · exact ok_put h hk
    · exact h
theorem okE_add {s : QS} (h : ∀ e ∈ s.ents, okKey e.1 = true) {k : Spot} (hk : okKey k = true) (t : Int) : ∀ e ∈ (s.add k t).ents, okKey e.1 = true := by
  unfold QS.add
  rcases getS s.taken k with _ | _ | u
  · exact okE_put h hk t
  · exact h
  · exact h
theorem okE_done {s : QS} (h : ∀ e ∈ s.ents, okKey e.1 = true) {k : Spot} (hk : okKey k = true) : ∀ e ∈ (s.done k).ents, okKey e.1 = true := by
  unfold QS.done
  rcases getS s.taken k with _ | _ | u
  · exact h
  · exact h
  · exact okE_put (s := { s with taken := dropS s.taken k }) h hk u
theorem knows_add {s : QS} {m : MS} (kn : Knows s m) {k : Spot} (hk : okKey k = true) (t : Int) : Knows (s.add k t) (addM m k t) := by
  obtain ⟨g, w, tk, dl, lg⟩ := add_good kn.good k t
  cases h : getS s.taken k with
  | none =>
    rw [h] at w tk
    have em : addM m k t = { m with rows := enterL m.rows k t } := by unfold addM; rw [kn.taken, h]
    rw [em]
    exact ⟨g, by rw [w, ← kn.rows], kn.taken.trans tk.symm, kn.delays.trans dl.symm, kn.longest.trans lg.symm, okE_add kn.okE hk t, by rw [tk]; exact kn.okT, by rw [tk]; exact kn.onceT, by rw [dl]; exact kn.nat, by rw [lg]; exact kn.long⟩
  | some o =>
    rw [h] at w tk
    have em : addM m k t = { m with taken := putS m.taken k (some (newT t o)) } := by unfold addM; rw [kn.taken, h]
    have etk : (s.add k t).taken = putS s.taken k (some (newT t o)) := by
      rw [tk]
      cases o with
      | none => rfl
      | some u =>
        show putS s.taken k (some (minPy u t)) = putS s.taken k (some (if u ≤ t then u else t))
        congr 2
        unfold minPy
        by_cases h : t < u
        · rw [if_pos h, if_neg (by omega)]
        · rw [if_neg h, if_pos (by omega)]
    rw [em]
    exact ⟨g, kn.rows.trans w.symm, by rw [etk, ← kn.taken], kn.delays.trans dl.symm, kn.longest.trans lg.symm, okE_add kn.okE hk t, by rw [etk]; exact ok_put kn.okT hk, by rw [etk]; exact putS_nodup kn.onceT, by rw [dl]; exact kn.nat, by rw [lg]; exact kn.long⟩
theorem knows_out {s : QS} {m : MS} (kn : Knows s m) {k : Spot} (hk : okKey k = true) {mm : Int} {r : WR} (h : wr s = (mm, k) :: r) : Knows (s.out k) { m with rows := r, taken := putS m.taken k none } :=
  ⟨kn.good.out k, (wr_out kn.good h).symm, by show putS m.taken k none = putS s.taken k none; rw [kn.taken], kn.delays, kn.longest, fun e he => kn.okE e (dropS_mem.mp he).1, ok_put kn.okT hk, putS_nodup kn.onceT, kn.nat, kn.long⟩
theorem knows_forget {s : QS} {m : MS} (kn : Knows s m) (k : Spot) : Knows (s.forget k) { m with delays := dropS m.delays k } :=
  ⟨⟨kn.good.once, kn.good.cnt, kn.good.le⟩, kn.rows, kn.taken, by show dropS m.delays k = dropS s.delays k; rw [kn.delays], kn.longest, kn.okE, kn.okT, kn.onceT, fun e he => kn.nat e (dropS_mem.mp he).1, kn.long⟩
theorem knows_done {s : QS} {m : MS} (kn : Knows s m) {k : Spot} (h : (getS s.taken k).isSome = true) : Knows (s.done k) (endM m k) := by
  obtain ⟨o, ho⟩ := Option.isSome_iff_exists.mp h
  obtain ⟨g, w, tk, dl, lg⟩ := done_good kn.good ho
  have hk : okKey k = true := by
    have := getS_mem ho
    exact kn.okT _ this
  have okD : ∀ e ∈ dropS s.taken k, okKey e.1 = true := fun e he => kn.okT e (dropS_mem.mp he).1
  cases o with
  | none =>
    have em : endM m k = { m with taken := dropS m.taken k } := by unfold endM; rw [kn.taken, ho]
    rw [em]
    exact ⟨g, kn.rows.trans w.symm, by rw [tk, ← kn.taken], kn.delays.trans dl.symm, kn.longest.trans lg.symm, okE_done kn.okE hk, by rw [tk]; exact okD, by rw [tk]; exact dropS_nodup kn.onceT, by rw [dl]; exact kn.nat, by rw [lg]; exact kn.long⟩
  | some t =>
    have em : endM m k = { m with taken := dropS m.taken k, rows := enterL m.rows k t } := by unfold endM; rw [kn.taken, ho]
    rw [em]
    exact ⟨g, by rw [w, kn.rows]; rfl, by rw [tk, ← kn.taken], kn.delays.trans dl.symm, kn.longest.trans lg.symm, okE_done kn.okE hk, by rw [tk]; exact okD, by rw [tk]; exact dropS_nodup kn.onceT, by rw [dl]; exact kn.nat, by rw [lg]; exact kn.long⟩
def delayM (m : MS) (k : Spot) : Int := (getS m.delays k).getD 1
def slowM (m : MS) (k : Spot) (d : Int) : MS := { m with delays := putS m.delays k (minPy (2 * d) m.longest) }
theorem delay_nat {s : QS} (h : ∀ e ∈ s.delays, 0 ≤ e.2) (k : Spot) : 0 ≤ s.delay k := by
  unfold QS.delay
  cases e : getS s.delays k with
  | none => decide
  | some x => exact h _ (getS_mem e)
theorem putS_all {α : Type} {es : List (Spot × α)} {k : Spot} {a : α} {P : α → Prop} (h : ∀ e ∈ es, P e.2) (ha : P a) : ∀ e ∈ putS es k a, P e.2 := by
  unfold putS
  split
  · intro e he
    obtain ⟨f, hf, q⟩ := List.mem_map.mp he
    by_cases z : f.1 = k
    · rw [if_pos z] at q; rw [← q]; exact ha
    · rw [if_neg z] at q; rw [← q]; exact h f hf
  · intro e he
    rcases List.mem_append.mp he with h' | h'
    · exact h e h'
    · rw [List.mem_singleton.mp h']; exact ha
theorem knows_slow {s : QS} {m : MS} (kn : Knows s m) (k : Spot) {d : Int} (hd : d = s.delay k) : Knows (s.slow k) (slowM m k d) := by
  subst hd
  refine ⟨⟨kn.good.once, kn.good.cnt, kn.good.le⟩, kn.rows, kn.taken, ?_, kn.longest, kn.okE, kn.okT, kn.onceT, ?_, kn.long⟩
  · show putS m.delays k (minPy _ m.longest) = putS s.delays k (minPy _ s.longest)
    rw [kn.delays, kn.longest]
  · refine putS_all (P := fun x : Int => 0 ≤ x) kn.nat ?_
    have := kn.long
    have := delay_nat kn.nat k
    unfold minPy
    split <;> omega
theorem add_delay (s : QS) (k : Spot) (t : Int) : (s.add k t).delays = s.delays ∧ (s.add k t).longest = s.longest := by
  unfold QS.add
  rcases getS s.taken k with _ | _ | u
  · exact ⟨(put_rest s k t).2.1, (put_rest s k t).2.2⟩
  · exact ⟨rfl, rfl⟩
  · exact ⟨rfl, rfl⟩
theorem knows_retry {s : QS} {m : MS} (kn : Knows s m) {k : Spot} (hk : okKey k = true) (h : (getS s.taken k).isSome = true) (c : Int) : Knows (s.retry k c) (endM (slowM (addM m k (c + delayM m k)) k (delayM m k)) k) := by
  have ed : delayM m k = s.delay k := by unfold delayM QS.delay; rw [kn.delays]
  rw [ed]
  have a := knows_add kn hk (c + s.delay k)
  have b := knows_slow a k (d := s.delay k) (by unfold QS.delay; rw [(add_delay s k _).1])
  refine knows_done b ?_
  obtain ⟨x, hx⟩ := Option.isSome_iff_exists.mp h
  obtain ⟨o, eo⟩ := add_taken (t := c + s.delay k) hx
  rw [eo]
  show (getS (putS s.taken k (some o)) k).isSome = true
  rw [getS_put, if_pos rfl]; rfl
theorem knows_row {s : QS} {m : MS} (kn : Knows s m) {r : Int × Spot} (h : r ∈ wr s) : okKey r.2 = true := by
  unfold wr at h
  obtain ⟨x, hx, rfl⟩ := List.mem_map.mp h
  exact kn.okE _ (rows_mem.mp ((waiting_perm s).mem_iff.mp hx))
/-! sizes -/
structure Bd (s : QS) (n : Nat) : Prop where
  e : s.ents.length ≤ n
  t : s.taken.length ≤ n
  d : s.delays.length ≤ n
theorem Bd.put {s : QS} {n : Nat} (h : Bd s n) (k : Spot) (t : Int) : Bd (s.put k t) (n + 1) := by
  have a : (s.put k t).ents.length ≤ n + 1 := by
    have q := putS_len s.ents k (t, s.count + 1)
    have := h.e
    unfold QS.put
    rcases getS s.ents k with _ | x
    · show (putS s.ents k _).length ≤ _; omega
    · show (if t < x.1 then s.bump k t else s).ents.length ≤ _
      split
      · show (putS s.ents k _).length ≤ _; omega
      · omega
  obtain ⟨b, c, _⟩ := put_rest s k t
  exact ⟨a, by rw [b]; have := h.t; omega, by rw [c]; have := h.d; omega⟩
theorem Bd.add {s : QS} {n : Nat} (h : Bd s n) (k : Spot) (t : Int) : Bd (s.add k t) (n + 1) := by
  unfold QS.add
  rcases getS s.taken k with _ | _ | u
  · exact h.put k t
  · exact ⟨by have := h.e; show s.ents.length ≤ _; omega, by have := putS_len s.taken k (some t); have := h.t; show (putS s.taken k _).length ≤ _; omega, by have := h.d; show s.delays.length ≤ _; omega⟩
  · exact ⟨by have := h.e; show s.ents.length ≤ _; omega, by have := putS_len s.taken k (some (minPy u t)); have := h.t; show (putS s.taken k _).length ≤ _; omega, by have := h.d; show s.delays.length ≤ _; omega⟩
theorem Bd.out {s : QS} {n : Nat} (h : Bd s n) (k : Spot) : Bd (s.out k) (n + 1) :=
  ⟨by have := dropS_len s.ents k; have := h.e; show (dropS s.ents k).length ≤ _; omega, by have := putS_len s.taken k none; have := h.t; show (putS s.taken k none).length ≤ _; omega, by have := h.d; show s.delays.length ≤ _; omega⟩
theorem Bd.done {s : QS} {n : Nat} (h : Bd s n) (k : Spot) : Bd (s.done k) (n + 1) := by
  have base : Bd { s with taken := dropS s.taken k } n := ⟨h.e, by have := dropS_len s.taken k; have := h.t; show (dropS s.taken k).length ≤ _; omega, h.d⟩
  unfold QS.done
  rcases getS s.taken k with _ | _ | t
  · exact ⟨Nat.le_succ_of_le base.e, Nat.le_succ_of_le base.t, Nat.le_succ_of_le base.d⟩
  · exact ⟨Nat.le_succ_of_le base.e, Nat.le_succ_of_le base.t, Nat.le_succ_of_le base.d⟩
  · exact base.put k t
theorem Bd.retry {s : QS} {n : Nat} (h : Bd s n) (k : Spot) (c : Int) : Bd (s.retry k c) (n + 3) := by
  have a := h.add k (c + s.delay k)
  have b : Bd ((s.add k (c + s.delay k)).slow k) (n + 2) := ⟨by have := a.e; show (s.add k _).ents.length ≤ _; omega, by have := a.t; show (s.add k _).taken.length ≤ _; omega, by
    have q := putS_len (s.add k (c + s.delay k)).delays k (minPy (2 * (s.add k (c + s.delay k)).delay k) (s.add k (c + s.delay k)).longest)
    have := a.d
    show (putS _ k _).length ≤ _
    omega⟩
  exact b.done k
theorem Bd.mono {s : QS} {n m : Nat} (h : Bd s n) (l : n ≤ m) : Bd s m := ⟨Nat.le_trans h.e l, Nat.le_trans h.t l, Nat.le_trans h.d l⟩
theorem Knows.few {s : QS} {m : MS} (kn : Knows s m) {n : Nat} (h : Bd s n) (l : n < 40000) : FewM m := by
  refine ⟨?_, by rw [kn.taken]; have := h.t; omega, by rw [kn.delays]; have := h.d; omega⟩
  rw [kn.rows]
  unfold wr QS.waiting rowsOf
  rw [List.length_map, srtD_len, List.length_map]
  have := h.e
  omega
/-! what stands while others change -/
structure Apart (A : QA) (B : LB) : Prop where
  et : A.e ≠ B.Tk
  ed : A.e ≠ B.Dl
  tt : A.t ≠ B.Tk
  td : A.t ≠ B.Dl
  dt : A.d ≠ B.Tk
  dd : A.d ≠ B.Dl
section
variable {K : PySem.W.Frag} {H H' : Hp} {A : QA} {B : LB} {s : QS} {m : MS}
theorem QAt.offM (h : QAt K H A s) (hm : MAt H B m) (ap : Apart A B) (x : OffM B H H') : QAt K H' A s := by
  obtain ⟨R, gM, _⟩ := hm.ob
  obtain ⟨kt, gT, _⟩ := hm.taken
  obtain ⟨kd, gD, _⟩ := hm.delays
  obtain ⟨ob, ⟨k1, e1, r1⟩, ⟨k2, e2, r2⟩, ⟨k3, e3, r3⟩, a, b, c⟩ := h
  have tup : ∀ p ys, H p = some (.tup ys) → H' p = some (.tup ys) := fun p ys hp => hm.off x hp rfl
  exact ⟨hm.off x ob rfl, ⟨k1, x _ _ e1 (ne_of e1 gM fun z => nomatch z) ap.et ap.ed, r1.mono fun v y r => r.keep tup⟩, ⟨k2, x _ _ e2 (ne_of e2 gM fun z => nomatch z) ap.tt ap.td, r2⟩, ⟨k3, x _ _ e3 (ne_of e3 gM fun z => nomatch z) ap.dt ap.dd, r3⟩, a, b, c⟩
theorem MAt.offQ (h : MAt H B m) (hq : QAt K H A s) (ap : Apart A B) (x : Off A H H') : MAt H' B m := by
  obtain ⟨k1, e1, _⟩ := hq.ents
  obtain ⟨k2, e2, _⟩ := hq.taken
  obtain ⟨k3, e3, _⟩ := hq.delays
  obtain ⟨⟨R, g0, ps, gR, hp⟩, ⟨kt, gT, rt⟩, ⟨kd, gD, rd⟩, ⟨qs, g4, r4⟩, n⟩ := h
  have tup : ∀ p ys, H p = some (.tup ys) → H' p = some (.tup ys) := fun p ys hp => hq.off x hp rfl
  exact ⟨⟨R, hq.off x g0 rfl, ps, hq.off x gR rfl, Paired.mono (fun _ _ r => rowW_keep tup r) hp⟩, ⟨kt, x _ _ gT (ne_of gT hq.ob fun z => nomatch z) ap.et.symm ap.tt.symm ap.dt.symm, rt⟩, ⟨kd, x _ _ gD (ne_of gD hq.ob fun z => nomatch z) ap.ed.symm ap.td.symm ap.dd.symm, rd⟩, ⟨qs, hq.off x g4 rfl, Paired.mono (fun _ _ r => tup _ _ r) r4⟩, n⟩
theorem well_tup {a : Addr} {n : Nat} (w : WellAt H a n) (x : Keep a H H') : ∀ p ys, H p = some (.tup ys) → H' p = some (.tup ys) := fun p ys hp => x _ _ (well_ne w hp fun _ z => nomatch z) hp
theorem well_refs {a b : Addr} {n : Nat} {ps : List Addr} (w : WellAt H a n) (hb : H b = some (.lst (ps.map V.ref))) : b ≠ a := by
  obtain ⟨u, hu, x, y, rfl⟩ := w
  refine ne_of hb hu fun z => ?_
  cases ps with
  | nil => cases z
  | cons p ps => injection z with z; injection z with z; cases z
theorem QAt.keep {a : Addr} {n : Nat} (h : QAt K H A s) (w : WellAt H a n) (x : Keep a H H') : QAt K H' A s := by
  obtain ⟨ob, ⟨k1, e1, r1⟩, ⟨k2, e2, r2⟩, ⟨k3, e3, r3⟩, p, q, r⟩ := h
  exact ⟨x _ _ (well_ne w ob fun _ z => nomatch z) ob, ⟨k1, x _ _ (well_ne w e1 fun _ z => nomatch z) e1, r1.mono fun v y r => r.keep (well_tup w x)⟩, ⟨k2, x _ _ (well_ne w e2 fun _ z => nomatch z) e2, r2⟩, ⟨k3, x _ _ (well_ne w e3 fun _ z => nomatch z) e3, r3⟩, p, q, r⟩
theorem MAt.keep {a : Addr} {n : Nat} (h : MAt H B m) (w : WellAt H a n) (x : Keep a H H') : MAt H' B m := by
  obtain ⟨⟨R, g0, ps, gR, hp⟩, ⟨kt, gT, rt⟩, ⟨kd, gD, rd⟩, ⟨qs, g4, r4⟩, n⟩ := h
  exact ⟨⟨R, x _ _ (well_ne w g0 fun _ z => nomatch z) g0, ps, x _ _ (well_refs w gR) gR, Paired.mono (fun _ _ r => rowW_keep (well_tup w x) r) hp⟩, ⟨kt, x _ _ (well_ne w gT fun _ z => nomatch z) gT, rt⟩, ⟨kd, x _ _ (well_ne w gD fun _ z => nomatch z) gD, rd⟩, ⟨qs, x _ _ (well_refs w g4) g4, Paired.mono (fun _ _ r => well_tup w x _ _ r) r4⟩, n⟩
theorem SpAt.keep {a b : Addr} {n : Nat} {k : Spot} (h : SpAt H b k) (w : WellAt H a n) (x : Keep a H H') : SpAt H' b k := well_tup w x _ _ h
/-- lists and tuples stand, but the source of draws -/
def Lists (a : Addr) (H H' : Hp) : Prop := ∀ b o, b ≠ a → H b = some o → ((∃ xs, o = .lst xs) ∨ ∃ xs, o = .tup xs) → H' b = some o
theorem Lists.trans {a : Addr} {H1 H2 H3 : Hp} (x : Lists a H1 H2) (y : Lists a H2 H3) : Lists a H1 H3 := fun b o n e p => y b o n (x b o n e p) p
theorem Lists.keep {a : Addr} (x : Keep a H H') : Lists a H H' := fun b o n e _ => x b o n e
theorem Lists.same {a : Addr} (x : Same H H') : Lists a H H' := fun b o _ e _ => x b o e
theorem Lists.offM {a : Addr} (hm : MAt H B m) (x : OffM B H H') : Lists a H H' := fun b o _ e p => hm.off x e (by rcases p with ⟨_, rfl⟩ | ⟨_, rfl⟩ <;> rfl)
theorem Lists.offQ {a : Addr} (hq : QAt K H A s) (x : Off A H H') : Lists a H H' := fun b o _ e p => hq.off x e (by rcases p with ⟨_, rfl⟩ | ⟨_, rfl⟩ <;> rfl)
theorem well_offM {a : Addr} {n : Nat} (w : WellAt H a n) (hm : MAt H B m) (x : OffM B H H') : WellAt H' a n := by
  obtain ⟨u, hu, y, z, rfl⟩ := w
  exact ⟨_, hm.off x hu rfl, y, z, rfl⟩
theorem well_offQ {a : Addr} {n : Nat} (w : WellAt H a n) (hq : QAt K H A s) (x : Off A H H') : WellAt H' a n := by
  obtain ⟨u, hu, y, z, rfl⟩ := w
  exact ⟨_, hq.off x hu rfl, y, z, rfl⟩
end
theorem well_same {a : Addr} {n : Nat} {H H' : Hp} (w : WellAt H a n) (x : Same H H') : WellAt H' a n := by
  obtain ⟨u, hu, o⟩ := w; exact ⟨u, x _ _ hu, o⟩

/-! ### a step -/
theorem max_nat (x : Int) : ∃ z : Int, (if x > 0 then x else 0) = z ∧ 0 ≤ z := ⟨_, rfl, by split <;> omega⟩
def sp__law_step (K : PySem.W.Frag) : Sp := fun vs H Q _ => ∃ (a : Addr) (n : Nat) (A : QA) (s : QS) (B : LB) (m : MS) (c : Int) (z : Nat), vs = [.ref a, .ref A.q, .ref B.M, .int c] ∧ WellAt H a n ∧ n < 900000 ∧ QAt K H A s ∧ MAt H B m ∧ Apart A B ∧ Knows s m ∧ Bd s z ∧ z < 900 ∧ 0 ≤ c ∧
  ∀ (H' : Hp) (n' : Nat) (s' : QS) (m' : MS), Lists a H H' → WellAt H' a n' → n' ≤ n + 10 → QAt K H' A s' → MAt H' B m' → Knows s' m' → Bd s' (z + 3) → Q (.bl true) H'
theorem ok__law_step {P : Program} {w : World} {K : PySem.W.Frag} {mg : Str → Option Value} {base : Heap} {fd : FuncData} (T : Txt K mg w) (F : FnP K "_law_step" s__law_step [] fd) : FnOk P w K mg base CX0 57 (He.ga K "_law_step") fd ps__law_step (sp__law_step K) := by
  obtain ⟨fd__law_one, F__law_one⟩ := T.d__law_one
  have G__law_one := ok__law_one (P := P) (w := w) (base := base) T F__law_one
  have k__law_one := F__law_one.kp
  have b__law_one := bi__law_one F__law_one
  obtain ⟨fd__law_ended, F__law_ended⟩ := T.d__law_ended
  have G__law_ended := ok__law_ended (P := P) (w := w) (base := base) T F__law_ended
  have k__law_ended := F__law_ended.kp
  have b__law_ended := bi__law_ended F__law_ended
  obtain ⟨fd_Queue_done, F_Queue_done⟩ := T.d_Queue_done
  have G_Queue_done := ok_Queue_done (P := P) (w := w) (base := base) T F_Queue_done
  have k_Queue_done := F_Queue_done.kp
  have b_Queue_done := bi_Queue_done F_Queue_done
  obtain ⟨fd__law_draw, F__law_draw⟩ := T.d__law_draw
  have G__law_draw := ok__law_draw (P := P) (w := w) (base := base) T F__law_draw
  have k__law_draw := F__law_draw.kp
  have b__law_draw := bi__law_draw F__law_draw
  obtain ⟨fd__law_added, F__law_added⟩ := T.d__law_added
  have G__law_added := ok__law_added (P := P) (w := w) (base := base) T F__law_added
  have k__law_added := F__law_added.kp
  have b__law_added := bi__law_added F__law_added
  obtain ⟨fd_Queue_add, F_Queue_add⟩ := T.d_Queue_add
  have G_Queue_add := ok_Queue_add (P := P) (w := w) (base := base) T F_Queue_add
  have k_Queue_add := F_Queue_add.kp
  have b_Queue_add := bi_Queue_add F_Queue_add
  obtain ⟨fd_Queue_take, F_Queue_take⟩ := T.d_Queue_take
  have G_Queue_take := ok_Queue_take (P := P) (w := w) (base := base) T F_Queue_take
  have k_Queue_take := F_Queue_take.kp
  have b_Queue_take := bi_Queue_take F_Queue_take
  obtain ⟨fd_Queue_forget, F_Queue_forget⟩ := T.d_Queue_forget
  have G_Queue_forget := ok_Queue_forget (P := P) (w := w) (base := base) T F_Queue_forget
  have k_Queue_forget := F_Queue_forget.kp
  have b_Queue_forget := bi_Queue_forget F_Queue_forget
  obtain ⟨fd_Queue_retry, F_Queue_retry⟩ := T.d_Queue_retry
  have G_Queue_retry := ok_Queue_retry (P := P) (w := w) (base := base) T F_Queue_retry
  have k_Queue_retry := F_Queue_retry.kp
  have b_Queue_retry := bi_Queue_retry F_Queue_retry
  refine F.ok sc__law_step (fun vs H Q E h => ?len) (fun cdv A outer s H vs Q E hr h => ?body)
  case len => obtain ⟨a, n, A, s, B, m, c, z, rfl, hw, hn, hq, hm, ap, kn, bd, hz, hc, k⟩ := h; rfl
  case body =>
  obtain ⟨a, n, A, s, B, m, c, z, rfl, hw, hn, hq, hm, ap, kn, bd, hz, hc, k⟩ := h
  have hu := hu_of hr
  refine ⟨_, PSs.nox (pss_cons (ps_par (i := 4) (j := 5) (by rfl) sc__law_step.nd rfl rfl (by decide) rfl rfl (pa_cons (pe_call G__law_draw (hr.mono (by first | decide | omega)) rfl T.g__law_draw k__law_draw b__law_draw .nil pass0 (pa_cons (pv 0) (pa_cons pe_int pa_nil))) (pa_cons (pe_call G__law_one (hr.mono (by first | decide | omega)) rfl T.g__law_one k__law_one b__law_one .nil pass0 (pa_cons (pv 0) (pa_cons (pe_dget hu (pv 2) pe_str (fun _ _ => rfl)) pa_nil))) pa_nil)) (by rfl))
    (pss_cons (ps_if (pt_cmpR op_lt (pv 4) pe_int (nomark _)) (pss_cons (ps_set (i := 6) sc__law_step.nd rfl (Or.inl rfl) (pe_call G__law_one (hr.mono (by first | decide | omega)) rfl T.g__law_one k__law_one b__law_one .nil pass0 (pa_cons (pv 0) (pa_cons (pe_lst (pa_cons (pv 3) (pa_cons (pv 3) (pa_cons (pe_callB (call_max2 rfl) (by rfl) T.n_max (by decide +kernel) (pa_cons pe_int (pa_cons (pe_op op_sub (pv 3) (pe_call G__law_draw (hr.mono (by first | decide | omega)) rfl T.g__law_draw k__law_draw b__law_draw .nil pass0 (pa_cons (pv 0) (pa_cons pe_int pa_nil)))) pa_nil))) (pa_cons (pe_op op_add (pv 3) (pe_call G__law_draw (hr.mono (by first | decide | omega)) rfl T.g__law_draw k__law_draw b__law_draw .nil pass0 (pa_cons (pv 0) (pa_cons pe_int pa_nil)))) pa_nil))))) pa_nil))))
      (pss_cons (ps_expr (pe_call G__law_added (hr.mono (by first | decide | omega)) rfl T.g__law_added k__law_added b__law_added .nil pass0 (pa_cons (pv 2) (pa_cons (pv 5) (pa_cons (pv 6) pa_nil)))))
      (pss_one (ps_ret (pe_cmpR op_isN (pe_meth (pv 1) T.cl_Queue T.m_Queue_add G_Queue_add (hr.mono (by first | decide | omega)) b_Queue_add .nil pass0 (pa_cons (pv 5) (pa_cons (pv 6) pa_nil))) pe_non (nomark _)))))) pss_nil)
    (pss_cons (ps_if (pt_cmpR op_lt (pv 4) pe_int (nomark _)) (pss_cons (ps_set (i := 7) sc__law_step.nd rfl (Or.inl rfl) pe_non)
      (pss_cons (ps_if (PW.pt (pw_and (pt_cmpR (show OpR _ (compareOp .NotEq) (rEqX K not) from op_neX hr.units) (pe_dget hu (pv 2) pe_str (fun _ _ => rfl)) (pe_lst pa_nil) (nomark _)) (pw_and1 (pt_cmpR op_le (pe_ix ix_tup (pe_ix ix_list (pe_dget hu (pv 2) pe_str (fun _ _ => rfl)) pe_int (fun _ _ => rfl)) pe_int (fun _ _ => rfl)) (pv 3) (nomark _))))) (pss_cons (ps_set (i := 7) sc__law_step.nd rfl (Or.inl rfl) (pe_ix ix_tup (pe_ix ix_list (pe_dget hu (pv 2) pe_str (fun _ _ => rfl)) pe_int (fun _ _ => rfl)) pe_int (fun _ _ => rfl)))
        (pss_cons (ps_dput hu (pv 2) pe_str (pe_slice sl_list (pe_dget hu (pv 2) pe_str (fun _ _ => rfl)) (po_some pe_int) po_none) rfl)
        (pss_one (ps_expr (pe_bm PySem.F.plainAttrs_dict PySem.F.slot_dict_update PySem.F.type_dict_update (mt_updT hu) (pe_dget hu (pv 2) pe_str (fun _ _ => rfl)) (pa_cons (pe_dispT hu (pv 7) pe_non) pa_nil)))))) pss_nil)
      (pss_one (ps_ret (pe_cmpR (show OpR _ (compareOp .Eq) (rEqX K id) from op_eqX hr.units) (pe_meth (pv 1) T.cl_Queue T.m_Queue_take G_Queue_take (hr.mono (by first | decide | omega)) b_Queue_take .nil pass0 (pa_cons (pv 3) pa_nil)) (pv 7) (nomark _)))))) pss_nil)
    (pss_cons (ps_if (pt_cmpR op_eq (pv 4) pe_int (nomark _)) (pss_cons (ps_expr (pe_bm PySem.F.plainAttrs_dict PySem.F.slot_dict_pop PySem.F.type_dict_pop (L2.DX.mt_popT hu) (pe_dget hu (pv 2) pe_str (fun _ _ => rfl)) (pa_cons (pv 5) (pa_cons pe_non pa_nil))))
      (pss_one (ps_ret (pe_cmpR op_isN (pe_meth (pv 1) T.cl_Queue T.m_Queue_forget G_Queue_forget (hr.mono (by first | decide | omega)) b_Queue_forget .nil pass0 (pa_cons (pv 5) pa_nil)) pe_non (nomark _))))) pss_nil)
    (pss_cons (ps_if (pt_cmpR (op_emptyT hu) (pe_dget hu (pv 2) pe_str (fun _ _ => rfl)) pe_dnewK (nomark _)) (pss_one (ps_ret pe_bl)) pss_nil)
    (pss_cons (ps_set (i := 5) sc__law_step.nd rfl (Or.inl rfl) (pe_call G__law_one (hr.mono (by first | decide | omega)) rfl T.g__law_one k__law_one b__law_one .nil pass0 (pa_cons (pv 0) (pa_cons (pe_callB (cr_sortT rfl hr.units) (by rfl) T.n_sorted (by decide +kernel) (pa_cons (pe_dget hu (pv 2) pe_str (fun _ _ => rfl)) pa_nil)) pa_nil))))
    (pss_cons (ps_if (pt_cmpR op_eq (pv 4) pe_int (nomark _)) (pss_cons (ps_set (i := 8) sc__law_step.nd rfl (Or.inl rfl) (pe_dget2 hu (pe_dget hu (pv 2) pe_str (fun _ _ => rfl)) (pv 5) pe_int ⟨rfl, rfl, rfl, rfl⟩))
      (pss_cons (ps_expr (pe_call G__law_added (hr.mono (by first | decide | omega)) rfl T.g__law_added k__law_added b__law_added .nil pass0 (pa_cons (pv 2) (pa_cons (pv 5) (pa_cons (pe_op op_add (pv 3) (pv 8)) pa_nil)))))
      (pss_cons (ps_expr (pe_bm PySem.F.plainAttrs_dict PySem.F.slot_dict_update PySem.F.type_dict_update (mt_updT hu) (pe_dget hu (pv 2) pe_str (fun _ _ => rfl)) (pa_cons (pe_dispT hu (pv 5) (pe_callB (call_min2 rfl) (by rfl) T.n_min (by decide +kernel) (pa_cons (pe_op op_mul pe_int (pv 8)) (pa_cons (pe_dget hu (pv 2) pe_str (fun _ _ => rfl)) pa_nil)))) pa_nil)))
      (pss_cons (ps_expr (pe_call G__law_ended (hr.mono (by first | decide | omega)) rfl T.g__law_ended k__law_ended b__law_ended .nil pass0 (pa_cons (pv 2) (pa_cons (pv 5) pa_nil))))
      (pss_one (ps_ret (pe_cmpR op_isN (pe_meth (pv 1) T.cl_Queue T.m_Queue_retry G_Queue_retry (hr.mono (by first | decide | omega)) b_Queue_retry .nil pass0 (pa_cons (pv 5) (pa_cons (pv 3) pa_nil))) pe_non (nomark _)))))))) pss_nil)
    (pss_cons (ps_expr (pe_call G__law_ended (hr.mono (by first | decide | omega)) rfl T.g__law_ended k__law_ended b__law_ended .nil pass0 (pa_cons (pv 2) (pa_cons (pv 5) pa_nil))))
    (pss_one (ps_ret (pe_cmpR op_isN (pe_meth (pv 1) T.cl_Queue T.m_Queue_done G_Queue_done (hr.mono (by first | decide | omega)) b_Queue_done .nil pass0 (pa_cons (pv 5) pa_nil)) pe_non (nomark _)))))))))))), ?_⟩
  have hu := hu_of hr
  refine ⟨_, rfl, a, n, 9, rfl, hw, by omega, by decide, by decide, fun deed u1 n1 d0 d1 hn1 hu1 => ?_⟩
  have w1 := well_upd (H := H) (a := a) hu1
  have K1 : Keep a H (upd H a u1) := Keep.at_
  generalize upd H a u1 = H1 at w1 K1 ⊢
  have hq1 := hq.keep hw K1
  have hm1 := hm.keep hw K1
  obtain ⟨qs, gK, hK⟩ := hm1.keys
  have lq : qs.length = 5 := pair_len hK
  refine ⟨_, rfl, _, rfl, B.M, _, rfl, hm1.gK, a, B.Ky, n1, _, rfl, w1, by omega, gK, well_refs w1 gK, by rw [List.length_map, lq]; decide, by rw [List.length_map, lq]; decide, fun y u2 n2 hy hn2 hu2 => ?_⟩
  obtain ⟨kb, hkb, rfl⟩ := List.mem_map.mp hy
  obtain ⟨i, hi⟩ := List.mem_iff_getElem?.mp hkb
  obtain ⟨key, ekey, hk1⟩ := paired_get hK hi
  have hok : okKey key = true := List.all_eq_true.mp keys_ok key (mem_at ekey)
  have w2 := well_upd (H := H1) (a := a) hu2
  have K2 : Keep a H1 (upd H1 a u2) := Keep.at_
  generalize upd H1 a u2 = H2 at w2 K2 ⊢
  have hq2 := hq1.keep w1 K2
  have hm2 := hm1.keep w1 K2
  have hk2 := hk1.keep w1 K2
  have L2 : Lists a H H2 := (Lists.keep K1).trans (Lists.keep K2)
  clear hK gK hq1 hm1 hk1 w1 K1 K2 hw hq hm hy hkb hi lq
  refine ⟨_, _, rfl, ?_⟩
  refine ⟨_, rfl, _, _, rfl, rfl, _, rfl, ite2 (fun hd => ?_) (fun hd => ?_)⟩
  · refine ⟨_, rfl, _, rfl, _, rfl, _, rfl, _, rfl, a, n2, 5, rfl, w2, by omega, by decide, by decide, fun r3 u3 n3 r30 r31 hn3 hu3 => ?_⟩
    have w3 := well_upd (H := H2) (a := a) hu3
    have K3 : Keep a H2 (upd H2 a u3) := Keep.at_
    generalize upd H2 a u3 = H3 at w3 K3 ⊢
    refine ⟨_, _, rfl, rfl, 0, _, rfl, _, rfl, _, rfl, a, n3, 9, rfl, w3, by omega, by decide, by decide, fun r4 u4 n4 r40 r41 hn4 hu4 => ?_⟩
    have w4 := well_upd (H := H3) (a := a) hu4
    have K4 : Keep a H3 (upd H3 a u4) := Keep.at_
    generalize upd H3 a u4 = H4 at w4 K4 ⊢
    refine ⟨_, _, rfl, rfl, smallN (by show 4 ≤ 1000; decide), fun pl hpl => ?_⟩
    obtain ⟨x, ex, x0⟩ := max_nat (c - r3)
    rw [ex]
    have S5 := Same.new (u := .lst [.int c, .int c, .int x, .int (c + r4)]) hpl
    have gl : upd H4 pl (.lst [.int c, .int c, .int x, .int (c + r4)]) pl = _ := upd_same
    have npl : pl ≠ a := well_ne3 w4 hpl
    have w5 := well_same w4 S5
    generalize upd H4 pl (.lst [.int c, .int c, .int x, .int (c + r4)]) = H5 at S5 gl w5 ⊢
    refine ⟨a, pl, n4, _, rfl, w5, by omega, gl, npl, by show 0 < 4; decide, by show 4 ≤ 1000; decide, fun y u6 n6 hy hn6 hu6 => ?_⟩
    obtain ⟨t, rfl, ht⟩ : ∃ t : Int, y = .int t ∧ 0 ≤ t := by
      simp only [List.mem_cons, List.not_mem_nil, or_false] at hy
      rcases hy with rfl | rfl | rfl | rfl
      · exact ⟨_, rfl, hc⟩
      · exact ⟨_, rfl, hc⟩
      · exact ⟨_, rfl, x0⟩
      · exact ⟨_, rfl, by omega⟩
    have w6 := well_upd (H := H5) (a := a) hu6
    have K6 : Keep a H5 (upd H5 a u6) := Keep.at_
    have K26 : Keep a H2 (upd H5 a u6) := ((K3.trans K4).trans (Keep.of S5)).trans K6
    generalize upd H5 a u6 = H6 at w6 K6 K26 ⊢
    have hq6 := hq2.keep w2 K26
    have hm6 := hm2.keep w2 K26
    have hk6 := hk2.keep w2 K26
    refine ⟨_, rfl, _, rfl, _, rfl, B, m, kb, key, t, rfl, hm6, hk6, kn.few bd (by omega), fun H7 O7 hm7 => ?_⟩
    have hq7 := hq6.offM hm6 ap O7
    have hk7 : SpAt H7 kb key := hm6.off O7 hk6 rfl
    have w7 := well_offM w6 hm6 O7
    have L7 : Lists a H H7 := (L2.trans (Lists.keep K26)).trans (Lists.offM hm6 O7)
    refine ⟨_, rfl, A.q, A.dx, _, rfl, hq7.ob, qF_no (by decide +kernel), _, rfl, _, rfl, A, s, kb, key, t, rfl, hq7, hk7, hok, ht, ⟨by have := bd.e; omega, by have := bd.t; omega, by have := bd.d; omega⟩, fun H8 O8 hq8 => ?_⟩
    exact ⟨rfl, k H8 n6 _ _ (L7.trans (Lists.offQ hq7 O8)) (well_offQ w7 hq7 O8) (by omega) hq8 (hm7.offQ hq7 ap O8) (knows_add kn hok t) ((bd.add key t).mono (by omega))⟩
  refine ⟨_, rfl, _, _, rfl, rfl, _, rfl, ite2 (fun hd => ?_) (fun hd => ?_)⟩
  · obtain ⟨R, gM, ps, gR, hp⟩ := hm2.ob
    have getR : ∀ H', Same H2 H' → DGet H' B.M (.str "rows") (some (.ref R)) := fun H' S => by have := DGet.k (k := .inr (Str.ofString "rows")) (S _ _ gM); rwa [mK_rows] at this
    refine ⟨_, rfl, B.M, _, rfl, getR H2 (fun _ _ h => h), smallN (by show 0 ≤ 1000; decide), fun e he => ?_⟩
    have S3 := Same.new (u := .lst []) he
    have ge : upd H2 e (.lst []) e = _ := upd_same
    generalize upd H2 e (.lst []) = H3 at S3 ge ⊢
    have hq3 := hq2.same S3
    have hm3 := hm2.same S3
    have w3 := well_same w2 S3
    have hp3 := pair_mono (G := RowW H3) hp fun p r h => rowW_keep (fun b ys hb => S3 _ _ hb) h
    have L3 : Lists a H H3 := L2.trans (Lists.same S3)
    have bdS : Small s := ⟨by have := bd.e; omega, by have := bd.t; omega, by have := bd.d; omega⟩
    have noDue : firstL (wr s) c = none → tRet (tOp (rEqX K id) (tMeth (He.ga K "Queue") "take" (sp_Queue_take K) [] E0 (tVar 1) (tCons (tVar 3) tNil)) (tVar 7)) { nx := fun x H' => Q V.non H', rt := Q } [some (.ref a), some (.ref A.q), some (.ref B.M), some (.int c), some (.int deed), some (.ref kb), none, some .non, none] H3 := fun e0 => by
      refine ⟨_, rfl, A.q, A.dx, _, rfl, hq3.ob, qF_no (by decide +kernel), _, rfl, A, s, c, rfl, hq3, hc, bdS, fun v H4 O4 hq4 hv => ?_⟩
      have f := first_wr kn.good c
      rw [e0] at f
      rw [f] at hv
      have hv : v = .non := hv
      subst hv
      have st : s.take c = s := by unfold QS.take; rw [f]
      rw [st] at hq4
      refine ⟨_, rfl, Unit, inferInstance, inferInstance, (), (), by decide, .non, .non, ?_⟩
      exact k H4 n2 s m (L3.trans (Lists.offQ hq3 O4)) (well_offQ w3 hq3 O4) (by omega) hq4 (hm3.offQ hq3 ap O4) kn (bd.mono (by omega))
    have gR3 := S3 _ _ gR
    have dpR : Dp K H3 (.ref R) (PySem.W.Datum.toD m.rows) := .lst (SqL.of gR3) (ws_dp hp3)
    refine ⟨WR, inferInstance, inferInstance, m.rows, [], by decide, dpR, .lst (SqL.of ge) .nil, _, rfl, ?_⟩
    rw [kn.rows] at hp3 ⊢
    cases hw0 : wr s with
    | nil =>
      exact iteF (iteF (noDue (by rw [hw0]; rfl)))
    | cons r0 rs =>
      refine iteT ?_
      rw [hw0] at hp3
      cases hp3 with
      | @cons p0 _ ps _ h0 hrest =>
        obtain ⟨q, h1, h2⟩ := id h0
        refine ⟨_, rfl, B.M, _, rfl, getR H3 S3, R, _, 0, .ref p0, rfl, rfl, SqL.of gR3, atI_nat (j := 0) rfl, p0, _, 0, .int r0.1, rfl, rfl, SqT.of h1, atI_nat (j := 0) rfl, _, rfl, _, _, rfl, rfl, _, rfl, ite2 (fun hle => ?_) (fun hle => ?_)⟩
        · have hle : r0.1 ≤ c := of_decide_eq_true hle
          refine ⟨_, rfl, B.M, _, rfl, getR H3 S3, R, _, 0, .ref p0, rfl, rfl, SqL.of gR3, atI_nat (j := 0) rfl, p0, _, 1, .ref q, rfl, rfl, SqT.of h1, atI_nat (j := 1) rfl, ?_⟩
          refine ⟨_, rfl, B.M, _, rfl, getR H3 S3, _, rfl, R, _, rfl, SqL.of gR3, fun p4 hp4 => ?_⟩
          have ed : cutV ((p0 :: ps).map V.ref) (some 1) none = ps.map V.ref := cut_drop ((p0 :: ps).map V.ref) 1
          rw [ed]
          have S4 := Same.new (u := .lst (ps.map V.ref)) hp4
          have g4 : upd H3 p4 (.lst (ps.map V.ref)) p4 = _ := upd_same
          generalize upd H3 p4 (.lst (ps.map V.ref)) = H4 at S4 g4 ⊢
          have hq4 := hq3.same S4
          have hm4 := hm3.same S4
          have w4 : WAt H4 p4 rs := ⟨ps, g4, pair_mono hrest fun p r h => rowW_keep (fun b ys hb => S4 _ _ hb) h⟩
          obtain ⟨R4, gM4, _⟩ := hm4.ob
          refine ⟨_, rfl, B.M, _, rfl, DPut.k (k := .inr (Str.ofString "rows")) gM4 (by show 5 < sizeLine; rw [sizeLine_eq]; decide), ?_⟩
          rw [mK_put]
          obtain ⟨hm5, o5⟩ := hm4.setR w4
          have hq5 := hq4.offM hm4 ap o5
          have w5 := well_offM (well_same w3 S4) hm4 o5
          have hk5 : SpAt _ q r0.2 := hm4.off o5 (SpAt.same h2 S4) rfl
          have L5 : Lists a H _ := (L3.trans (Lists.same S4)).trans (Lists.offM hm4 o5)
          generalize upd H4 B.M (.dK (mK p4 B m.longest)) = H5 at hm5 hq5 w5 hk5 L5 ⊢
          obtain ⟨kt, gT, rT⟩ := hm5.taken
          refine ⟨_, rfl, B.M, _, rfl, hm5.gT, .inr (.inr (.inl ⟨rfl, .inr ⟨_, gT⟩⟩)), fun p6 hp6 => ⟨_, rfl, q, kk r0.2, rfl, upd_same, ((SpAt.same hk5 (Same.new hp6))).key, ?_⟩⟩
          have S6 : Same H5 (upd (upd H5 p6 (.dT [])) p6 (.dT [(kk r0.2, .non)])) := fun b o hb => (upd_ne (ne_of_none hb hp6)).trans (Same.new hp6 _ _ hb)
          have g6 : upd (upd H5 p6 (.dT [])) p6 (.dT [(kk r0.2, .non)]) p6 = _ := upd_same
          generalize upd (upd H5 p6 (.dT [])) p6 (.dT [(kk r0.2, .non)]) = H6 at S6 g6 ⊢
          have hq6 := hq5.same S6
          have hm6 := hm5.same S6
          have hok0 : okKey r0.2 = true := knows_row kn (by rw [hw0]; exact List.mem_cons_self)
          obtain ⟨hm7, o7⟩ := hm6.setT (rT.put r0.2 (v := .non) (a := none) rfl)
          refine ⟨B.Tk, p6, kt, kk r0.2, _, rfl, rfl, ne_of_none gT hp6, S6 _ _ gT, g6, by rw [rT.length]; exact small5' (by have := (kn.few bd (by omega)).t; show m.taken.length ≤ _; omega), ?_⟩
          have hq7 := hq6.offM hm6 ap o7
          have w7 := well_offM (well_same w5 S6) hm6 o7
          have hk7 : SpAt _ q r0.2 := hm6.off o7 (SpAt.same hk5 S6) rfl
          have L7 : Lists a H _ := (L5.trans (Lists.same S6)).trans (Lists.offM hm6 o7)
          generalize upd H6 B.Tk (.dT (putK kt (kk r0.2) .non)) = H7 at hm7 hq7 w7 hk7 L7 ⊢
          refine ⟨_, rfl, A.q, A.dx, _, rfl, hq7.ob, qF_no (by decide +kernel), _, rfl, A, s, c, rfl, hq7, hc, bdS, fun v H8 O8 hq8 hv => ?_⟩
          have f := first_wr kn.good c
          rw [hw0] at f
          have f : s.first c = some r0.2 := f.trans (if_pos hle)
          rw [f] at hv
          obtain ⟨b, rfl, hb⟩ := hv
          have st : s.take c = s.out r0.2 := by unfold QS.take; rw [f]
          rw [st] at hq8
          refine ⟨_, rfl, Spot, inferInstance, inferInstance, r0.2, r0.2, by decide, hb.dp, (hq7.sp O8 hk7).dp, ?_⟩
          rw [decide_eq_true rfl]
          exact k H8 n2 _ _ (L7.trans (Lists.offQ hq7 O8)) (well_offQ w7 hq7 O8) (by omega) hq8 (hm7.offQ hq7 ap O8) (knows_out kn hok0 (mm := r0.1) (r := rs) (by rw [hw0])) ((bd.out r0.2).mono (by omega))
        · exact noDue (by rw [hw0]; exact if_neg fun z => hle (decide_eq_true z))
  have bdS : Small s := ⟨by have := bd.e; omega, by have := bd.t; omega, by have := bd.d; omega⟩
  refine ⟨_, rfl, rfl, _, rfl, ite2 (fun hd => ?_) (fun hd => ?_)⟩
  · obtain ⟨kd, gd, rd⟩ := hm2.delays
    have fin : ∀ H3 m3, OffM B H2 H3 → MAt H3 B m3 → m3 = { m with delays := dropS m.delays key } → tRet (tOp (fun x y H Q => y = V.non ∧ Q (V.bl (decide (x = V.non))) H) (tMeth (He.ga K "Queue") "forget" (sp_Queue_forget K) [] E0 (tVar 1) (tCons (tVar 5) tNil)) (tC V.non)) { nx := fun x H' => Q V.non H', rt := Q } [some (.ref a), some (.ref A.q), some (.ref B.M), some (.int c), some (.int deed), some (.ref kb), none, none, none] H3 := fun H3 m3 O3 hm3 e3 => by
      subst e3
      have hq3 := hq2.offM hm2 ap O3
      have w3 := well_offM w2 hm2 O3
      have hk3 : SpAt H3 kb key := hm2.off O3 hk2 rfl
      refine ⟨_, rfl, A.q, A.dx, _, rfl, hq3.ob, qF_no (by decide +kernel), _, rfl, A, s, kb, key, rfl, hq3, hk3, hok, fun H4 O4 hq4 => ?_⟩
      exact ⟨rfl, k H4 n2 _ _ ((L2.trans (Lists.offM hm2 O3)).trans (Lists.offQ hq3 O4)) (well_offQ w3 hq3 O4) (by omega) hq4 (hm3.offQ hq3 ap O4) (knows_forget kn key) ⟨by have := bd.e; show s.ents.length ≤ _; omega, by have := bd.t; show s.taken.length ≤ _; omega, by have := bd.d; have := dropS_len s.delays key; show (dropS s.delays key).length ≤ _; omega⟩⟩
    refine ⟨_, rfl, B.M, _, rfl, hm2.gD, .inr (.inr (.inl ⟨rfl, .inr ⟨_, gd⟩⟩)), _, rfl, B.Dl, kd, kk key, kb, .non, rfl, rfl, gd, hk2.key, fun v ev => ?_, fun e => ?_⟩
    · obtain ⟨hm3, o3⟩ := hm2.setD (rd.drop key)
      exact fin _ _ o3 hm3 rfl
    · rcases rd.get key with ⟨n1, n2⟩ | ⟨x, v, e1, e2, rfl⟩
      · exact fin _ _ (OffM.refl B H2) hm2 (by rw [dropS_none n1])
      · rw [e2] at e; cases e
  obtain ⟨kt, gT, rT⟩ := hm2.taken
  have lT : kt.length = m.taken.length := rT.length
  refine ⟨_, rfl, B.M, _, rfl, hm2.gT, fun p hp => ⟨B.Tk, p, kt, rfl, rfl, Same.new hp _ _ gT, upd_same, _, rfl, ?_⟩⟩
  have S3 := Same.new (u := .dK []) hp
  generalize upd H2 p (.dK []) = H3 at S3 ⊢
  have hq3 := hq2.same S3
  have hm3 := hm2.same S3
  have w3 := well_same w2 S3
  have L3 : Lists a H H3 := L2.trans (Lists.same S3)
  cases hkt : kt with
  | nil => exact iteT (k H3 n2 s m L3 w3 (by omega) hq3 hm3 kn (bd.mono (by omega)))
  | cons row0 rest0 =>
    have lpos : 0 < m.taken.length := by rw [← lT, hkt]; exact Nat.succ_pos _
    refine iteF ?_
    refine ⟨_, rfl, _, rfl, B.M, _, rfl, hm3.gT, B.Tk, kt, m.taken.map (·.1), rfl, S3 _ _ gT, rT.keys, fun k hk => ?_, fun p4 out hp4 po => ?_⟩
    · obtain ⟨e, he, rfl⟩ := List.mem_map.mp hk
      rw [kn.taken] at he
      exact ok_full (kn.okT e he)
    obtain ⟨qs, rfl, hqs⟩ := out_spots po
    have S4 := Same.new (u := .lst (qs.map V.ref)) hp4
    have g4 : upd H3 p4 (.lst (qs.map V.ref)) p4 = _ := upd_same
    generalize upd H3 p4 (.lst (qs.map V.ref)) = H4 at S4 g4 ⊢
    have w4 := well_same w3 S4
    have lqs : qs.length = m.taken.length := by rw [pair_len hqs, srtD_len, List.length_map]
    have t900 : m.taken.length ≤ 900 := by rw [kn.taken]; have := bd.t; omega
    refine ⟨a, p4, n2, _, rfl, w4, by omega, g4, well_refs w4 g4, by rw [List.length_map]; omega, by rw [List.length_map]; omega, fun y u5 n5 hy hn5 hu5 => ?_⟩
    obtain ⟨kb2, hkb2, rfl⟩ := List.mem_map.mp hy
    obtain ⟨i2, hi2⟩ := List.mem_iff_getElem?.mp hkb2
    obtain ⟨key2, ekey2, hk23⟩ := paired_get hqs hi2
    have mem2 : key2 ∈ s.taken.map (·.1) := by rw [← kn.taken]; exact (srtD_perm _).mem_iff.mp (mem_at ekey2)
    have hok2 : okKey key2 = true := by
      obtain ⟨e, he, rfl⟩ := List.mem_map.mp mem2
      exact kn.okT e he
    have there : (getS s.taken key2).isSome = true := by obtain ⟨x, hx⟩ := getS_some mem2; rw [hx]; rfl
    have w5 := well_upd (H := H4) (a := a) hu5
    have K5 : Keep a H4 (upd H4 a u5) := Keep.at_
    generalize upd H4 a u5 = H5 at w5 K5 ⊢
    have hq5 := (hq3.same S4).keep w4 K5
    have hm5 := (hm3.same S4).keep w4 K5
    have hk5 : SpAt H5 kb2 key2 := (SpAt.same hk23 S4).keep w4 K5
    have L5 : Lists a H H5 := (L3.trans (Lists.same S4)).trans (Lists.keep K5)
    clear hq3 hm3 w3 L3 hqs po S4 g4 w4 K5 hy hkb2 hi2
    refine ⟨_, rfl, rfl, _, rfl, ite2 (fun hd8 => ?_) (fun hd8 => ?_)⟩
    · obtain ⟨kd, gd, rd⟩ := hm5.delays
      refine ⟨_, rfl, B.M, _, rfl, hm5.gD, B.Dl, rfl, .inr ⟨kd, .inl gd⟩, _, rfl, _, DGet.t gd hk5.key, ?_⟩
      have edl : (valV kd (kk key2)).getD (.int 1) = .int (delayM m key2) := by
        unfold delayM
        rcases rd.get key2 with ⟨n1, n2⟩ | ⟨x, v, e1, e2, rfl⟩
        · rw [n1, n2]; rfl
        · rw [e1, e2]; rfl
      rw [edl]
      have few5 : FewM m := kn.few bd (by omega)
      refine ⟨_, rfl, _, rfl, _, rfl, _, rfl, _, _, rfl, rfl, B, m, kb2, key2, _, rfl, hm5, hk5, few5, fun H6 O6 hm6 => ?_⟩
      have hq6 := hq5.offM hm5 ap O6
      have w6 := well_offM w5 hm5 O6
      have hk6 : SpAt H6 kb2 key2 := hm5.off O6 hk5 rfl
      have L6 : Lists a H H6 := L5.trans (Lists.offM hm5 O6)
      have kn6 := knows_add kn hok2 (c + s.delay key2)
      have edd : delayM m key2 = s.delay key2 := by unfold delayM QS.delay; rw [kn.delays]
      have few6 : FewM (addM m key2 (c + delayM m key2)) := by rw [edd]; exact kn6.few (bd.add key2 _) (by omega)
      obtain ⟨kd6, gd6, rd6⟩ := hm6.delays
      refine ⟨_, rfl, B.M, _, rfl, hm6.gD, .inr (.inr (.inl ⟨rfl, .inr ⟨_, gd6⟩⟩)), fun p7 hp7 => ⟨_, rfl, _, rfl, ?_⟩⟩
      have hm7 := hm6.same (Same.new (u := .dT []) hp7)
      have lng : (addM m key2 (c + delayM m key2)).longest = m.longest := by unfold addM; cases getS m.taken key2 <;> rfl
      have gL := hm7.gL
      rw [lng] at gL
      refine ⟨_, _, rfl, rfl, .inl ⟨by decide, by decide⟩, _, rfl, B.M, _, rfl, gL, _, _, rfl, kb2, kk key2, rfl, upd_same, (SpAt.same hk6 (Same.new hp7)).key, ?_⟩
      generalize hmin : (if m.longest < 2 * delayM m key2 then m.longest else 2 * delayM m key2) = mn
      have S8 : Same H6 (upd (upd H6 p7 (.dT [])) p7 (.dT [(kk key2, .int mn)])) := fun b o hb => (upd_ne (ne_of_none hb hp7)).trans (Same.new hp7 _ _ hb)
      have g8 : upd (upd H6 p7 (.dT [])) p7 (.dT [(kk key2, .int mn)]) p7 = _ := upd_same
      generalize upd (upd H6 p7 (.dT [])) p7 (.dT [(kk key2, .int mn)]) = H8 at S8 g8 ⊢
      have hq8 := hq6.same S8
      have hm8 := hm6.same S8
      obtain ⟨hm9, o9⟩ := hm8.setD (rd6.put key2 (v := .int mn) (a := mn) rfl)
      refine ⟨B.Dl, p7, kd6, kk key2, _, rfl, rfl, ne_of_none gd6 hp7, S8 _ _ gd6, g8, by rw [rd6.length]; exact small5' (by have := few6.d; omega), ?_⟩
      have hq9 := hq8.offM hm8 ap o9
      have w9 := well_offM (well_same w6 S8) hm8 o9
      have hk9 : SpAt _ kb2 key2 := hm8.off o9 (SpAt.same hk6 S8) rfl
      have L9 : Lists a H _ := (L6.trans (Lists.same S8)).trans (Lists.offM hm8 o9)
      generalize upd H8 B.Dl (.dT (putK kd6 (kk key2) (.int mn))) = H9 at hm9 hq9 w9 hk9 L9 ⊢
      have em9 : ({ addM m key2 (c + delayM m key2) with delays := putS (addM m key2 (c + delayM m key2)).delays key2 mn } : MS) = slowM (addM m key2 (c + delayM m key2)) key2 (delayM m key2) := by unfold slowM; rw [show minPy (2 * delayM m key2) (addM m key2 (c + delayM m key2)).longest = mn by rw [lng]; exact hmin]
      rw [em9] at hm9
      have kn9 := knows_slow kn6 key2 (d := s.delay key2) (by unfold QS.delay; rw [(add_delay s key2 _).1])
      rw [← edd] at kn9
      have bd9 : Bd ((s.add key2 (c + delayM m key2)).slow key2) (z + 2) := by
        have b := bd.add key2 (c + delayM m key2)
        exact ⟨by have := b.e; show (s.add key2 _).ents.length ≤ _; omega, by have := b.t; show (s.add key2 _).taken.length ≤ _; omega, by
          have q := putS_len (s.add key2 (c + delayM m key2)).delays key2 (minPy (2 * (s.add key2 (c + delayM m key2)).delay key2) (s.add key2 (c + delayM m key2)).longest)
          have := b.d
          show (putS _ key2 _).length ≤ _
          omega⟩
      have there9 : (getS (slowM (addM m key2 (c + delayM m key2)) key2 (delayM m key2)).taken key2).isSome = true := by
        rw [kn9.taken]
        obtain ⟨x, hx⟩ := Option.isSome_iff_exists.mp there
        obtain ⟨o, eo⟩ := add_taken (t := c + delayM m key2) hx
        show (getS (s.add key2 (c + delayM m key2)).taken key2).isSome = true
        rw [eo]
        show (getS (putS s.taken key2 (some o)) key2).isSome = true
        rw [getS_put, if_pos rfl]; rfl
      refine ⟨_, rfl, _, rfl, B, _, kb2, key2, rfl, hm9, hk9, kn9.few bd9 (by omega), there9, fun H10 O10 hm10 => ?_⟩
      have hq10 := hq9.offM hm9 ap O10
      have w10 := well_offM w9 hm9 O10
      have hk10 : SpAt H10 kb2 key2 := hm9.off O10 hk9 rfl
      have L10 : Lists a H H10 := L9.trans (Lists.offM hm9 O10)
      refine ⟨_, rfl, A.q, A.dx, _, rfl, hq10.ob, qF_no (by decide +kernel), _, rfl, _, rfl, A, s, kb2, key2, c, rfl, hq10, hk10, hok2, there, hc, delay_nat kn.nat key2, ⟨by have := bd.e; omega, by have := bd.t; omega, by have := bd.d; omega⟩, fun H11 O11 hq11 => ?_⟩
      exact ⟨rfl, k H11 n5 _ _ (L10.trans (Lists.offQ hq10 O11)) (well_offQ w10 hq10 O11) (by omega) hq11 (hm10.offQ hq10 ap O11) (knows_retry kn hok2 there c) (bd.retry key2 c)⟩
    · refine ⟨_, rfl, _, rfl, B, m, kb2, key2, rfl, hm5, hk5, kn.few bd (by omega), by rw [kn.taken]; exact there, fun H6 O6 hm6 => ?_⟩
      have hq6 := hq5.offM hm5 ap O6
      have w6 := well_offM w5 hm5 O6
      have hk6 : SpAt H6 kb2 key2 := hm5.off O6 hk5 rfl
      have L6 : Lists a H H6 := L5.trans (Lists.offM hm5 O6)
      refine ⟨_, rfl, A.q, A.dx, _, rfl, hq6.ob, qF_no (by decide +kernel), _, rfl, A, s, kb2, key2, rfl, hq6, hk6, hok2, there, bdS, fun H7 O7 hq7 => ?_⟩
      exact ⟨rfl, k H7 n5 _ _ (L6.trans (Lists.offQ hq6 O7)) (well_offQ w6 hq6 O7) (by omega) hq7 (hm6.offQ hq6 ap O7) (knows_done kn there) ((bd.done key2).mono (by omega))⟩

/-! ### the law -/
theorem putK_snoc {kvs : List (Key × V)} {k : Key} {v : V} (h : k ∉ kvs.map (·.1)) : putK kvs k v = kvs ++ [(k, v)] := putK_new v (by
  induction kvs with
  | nil => rfl
  | cons p r more =>
    rw [List.map_cons, List.mem_cons, not_or] at h
    rw [valV_neg fun e => h.1 e.symm]
    exact more h.2)
theorem merge_app : ∀ (more kvs : List (Key × V)), ((kvs ++ more).map (·.1)).Nodup → mergeK kvs more = kvs ++ more
  | [], kvs, _ => (List.append_nil _).symm
  | p :: r, kvs, h => by
    show mergeK (putK kvs p.1 p.2) r = _
    have n : p.1 ∉ kvs.map (·.1) := fun z => by
      rw [List.map_append, List.nodup_append] at h
      exact h.2.2 p.1 z p.1 List.mem_cons_self rfl
    rw [putK_snoc n]
    have e : kvs ++ [(p.1, p.2)] ++ r = kvs ++ p :: r := by rw [List.append_assoc]; rfl
    rw [merge_app r _ (by rw [e]; exact h), e]
theorem mK_merge (R : Addr) (B : LB) (l : Int) : mergeK [] (mK R B l) = mK R B l := by
  refine merge_app _ [] ?_
  show ([.inr (Str.ofString "rows"), .inr (Str.ofString "taken"), .inr (Str.ofString "delays"), .inr (Str.ofString "keys"), .inr (Str.ofString "longest")] : List Key).Nodup
  decide +kernel
theorem good_new (m : Int) : Good (QS.new m) := ⟨List.nodup_nil, List.nodup_nil, fun e he => nomatch he⟩
theorem knows_new {m : Int} (h : 0 ≤ m) : Knows (QS.new m) ⟨[], [], [], m⟩ :=
  ⟨good_new m, by simp [wr, QS.waiting, srtD, rowsOf, QS.new], rfl, rfl, rfl, (fun e he => nomatch he), (fun e he => nomatch he), List.nodup_nil, (fun e he => nomatch he), h⟩
theorem small_new (m : Int) : Small (QS.new m) := ⟨by show 0 < _; decide, by show 0 < _; decide, by show 0 < _; decide⟩
def sp_law (K : PySem.W.Frag) : Sp := fun vs H Q _ => ∃ (a : Addr) (ns : List Int), vs = [.ref a] ∧ SqL K H a (ns.map V.int) ∧ ns.length ≤ 63 ∧ ∀ H', Q (.bl true) H'
theorem ok_law {P : Program} {w : World} {K : PySem.W.Frag} {mg : Str → Option Value} {base : Heap} {fd : FuncData} (T : Txt K mg w) (F : FnP K "law" s_law [] fd) : FnOk P w K mg base CX0 58 (He.ga K "law") fd ps_law (sp_law K) := by
  obtain ⟨fd_Queue_take, F_Queue_take⟩ := T.d_Queue_take
  have G_Queue_take := ok_Queue_take (P := P) (w := w) (base := base) T F_Queue_take
  have k_Queue_take := F_Queue_take.kp
  have b_Queue_take := bi_Queue_take F_Queue_take
  obtain ⟨fd__law_well, F__law_well⟩ := T.d__law_well
  have G__law_well := ok__law_well (P := P) (w := w) (base := base) T F__law_well
  have k__law_well := F__law_well.kp
  have b__law_well := bi__law_well F__law_well
  obtain ⟨fd__law_one, F__law_one⟩ := T.d__law_one
  have G__law_one := ok__law_one (P := P) (w := w) (base := base) T F__law_one
  have k__law_one := F__law_one.kp
  have b__law_one := bi__law_one F__law_one
  obtain ⟨fd_Queue___init__, F_Queue___init__⟩ := T.d_Queue___init__
  have G_Queue___init__ := ok_Queue___init__ (P := P) (w := w) (base := base) T F_Queue___init__
  have k_Queue___init__ := F_Queue___init__.kp
  obtain ⟨mv_Queue___init__, b_Queue___init__⟩ := bk_Queue___init__ F_Queue___init__
  obtain ⟨mv0_Queue___init__, b_Queue___init__0⟩ := bk0_Queue___init__ F_Queue___init__
  obtain ⟨fd__law_cell_at, F__law_cell_at⟩ := T.d__law_cell_at
  have G__law_cell_at := ok__law_cell_at (P := P) (w := w) (base := base) T F__law_cell_at
  have k__law_cell_at := F__law_cell_at.kp
  have b__law_cell_at := bi__law_cell_at F__law_cell_at
  obtain ⟨fd__law_draw, F__law_draw⟩ := T.d__law_draw
  have G__law_draw := ok__law_draw (P := P) (w := w) (base := base) T F__law_draw
  have k__law_draw := F__law_draw.kp
  have b__law_draw := bi__law_draw F__law_draw
  obtain ⟨fd_Queue_waiting, F_Queue_waiting⟩ := T.d_Queue_waiting
  have G_Queue_waiting := ok_Queue_waiting (P := P) (w := w) (base := base) T F_Queue_waiting
  have k_Queue_waiting := F_Queue_waiting.kp
  have b_Queue_waiting := bi_Queue_waiting F_Queue_waiting
  obtain ⟨fd_Queue_working, F_Queue_working⟩ := T.d_Queue_working
  have G_Queue_working := ok_Queue_working (P := P) (w := w) (base := base) T F_Queue_working
  have k_Queue_working := F_Queue_working.kp
  have b_Queue_working := bi_Queue_working F_Queue_working
  obtain ⟨fd__law_step, F__law_step⟩ := T.d__law_step
  have G__law_step := ok__law_step (P := P) (w := w) (base := base) T F__law_step
  have k__law_step := F__law_step.kp
  have b__law_step := bi__law_step F__law_step
  obtain ⟨fd__law_stands, F__law_stands⟩ := T.d__law_stands
  have G__law_stands := ok__law_stands (P := P) (w := w) (base := base) T F__law_stands
  have k__law_stands := F__law_stands.kp
  have b__law_stands := bi__law_stands F__law_stands
  refine F.ok sc_law (fun vs H Q E h => ?len) (fun cdv A outer s H vs Q E hr h => ?body)
  case len => obtain ⟨a, ns, rfl, hS, hlen, k⟩ := h; rfl
  case body =>
  obtain ⟨a, ns, rfl, hS, hlen, k⟩ := h
  have hu := hu_of hr
  refine ⟨_, PSs.nox (pss_cons (ps_for PassesOwn.never rfl (pi_list (pe_op op_cat (pe_lst (pa_cons (pe_call G__law_cell_at (hr.mono (by first | decide | omega)) rfl T.g__law_cell_at k__law_cell_at b__law_cell_at .nil pass0 (pa_cons (pv 0) (pa_cons pe_int pa_nil))) pa_nil)) (pe_slice sl_list (pv 0) (po_some pe_int) (po_some pe_int)))) (pg_name (i := 1) sc_law.nd rfl (Or.inl rfl))
      (pss_cons (ps_set (i := 2) sc_law.nd rfl (Or.inl rfl) (pe_call G__law_well (hr.mono (by first | decide | omega)) rfl T.g__law_well k__law_well b__law_well .nil pass0 (pa_cons (pv 1) pa_nil)))
        (pss_cons (ps_set (i := 3) sc_law.nd rfl (Or.inl rfl) (pe_call G__law_one (hr.mono (by first | decide | omega)) rfl T.g__law_one k__law_one b__law_one .nil pass0 (pa_cons (pv 2) (pa_cons (pe_lst (pa_cons pe_int (pa_cons pe_int (pa_cons pe_int (pa_cons pe_int (pa_cons pe_int pa_nil)))))) pa_nil))))
        (pss_cons (ps_set (i := 4) sc_law.nd rfl (Or.inl rfl) (pe_lst (pa_cons (pe_tup (pa_cons pe_str (pa_cons pe_str (pa_cons pe_str pa_nil)))) (pa_cons (pe_tup (pa_cons pe_str (pa_cons pe_str (pa_cons pe_str pa_nil)))) (pa_cons (pe_tup (pa_cons pe_str (pa_cons pe_str (pa_cons pe_str pa_nil)))) (pa_cons (pe_tup (pa_cons pe_str (pa_cons pe_str (pa_cons pe_str pa_nil)))) (pa_cons (pe_tup (pa_cons pe_str (pa_cons pe_str (pa_cons pe_str pa_nil)))) pa_nil)))))))
        (pss_cons (ps_par (i := 5) (j := 6) (by rfl) sc_law.nd rfl rfl (by decide) rfl rfl (pa_cons (pe_makeK0 T.mk_Queue G_Queue___init__ (hr.mono (by first | decide | omega)) rfl T.g_Queue b_Queue___init__ pass0 (pk_cons (pv 3) pk_nil)) (pa_cons pe_int pa_nil)) (by rfl))
        (pss_cons (ps_set (i := 7) sc_law.nd rfl (Or.inl rfl) (pe_disp (pps_cons pe_str (pe_lst pa_nil) (pps_cons pe_str pe_dnewT (pps_cons pe_str pe_dnewT (pps_cons pe_str (pv 4) (pps_cons pe_str (pv 3) pps_nil))))) (by rfl) (by rfl) (fun z => by cases z) (by decide)))
        (pss_one (ps_for PassesOwn.never rfl (pi_range1 rfl T.n_range (pa_cons (pe_op op_add pe_int (pe_call G__law_draw (hr.mono (by first | decide | omega)) rfl T.g__law_draw k__law_draw b__law_draw .nil pass0 (pa_cons (pv 2) (pa_cons pe_int pa_nil)))) pa_nil)) (pg_name (i := 8) sc_law.nd rfl (Or.inl rfl))
          (pss_cons (ps_set (i := 6) sc_law.nd rfl (Or.inl rfl) (pe_op op_add (pv 6) (pe_call G__law_one (hr.mono (by first | decide | omega)) rfl T.g__law_one k__law_one b__law_one .nil pass0 (pa_cons (pv 2) (pa_cons (pe_lst (pa_cons pe_int (pa_cons pe_int (pa_cons pe_int (pa_cons pe_int (pa_cons pe_int (pa_cons pe_int pa_nil))))))) pa_nil)))))
            (pss_cons (ps_if (PW.pt (pw_or (pt_not (pt_val (pe_call G__law_step (hr.mono (by first | decide | omega)) rfl T.g__law_step k__law_step b__law_step .nil pass0 (pa_cons (pv 2) (pa_cons (pv 5) (pa_cons (pv 7) (pa_cons (pv 6) pa_nil))))))) (pw_or1 (pt_not (pt_val (pe_call G__law_stands (hr.mono (by first | decide | omega)) rfl T.g__law_stands k__law_stands b__law_stands .nil pass0 (pa_cons (pv 5) (pa_cons (pv 7) pa_nil)))))))) (pss_one (ps_ret pe_bl)) pss_nil)
            (pss_cons (ps_expr (pe_bm PySem.F.plainAttrs_list PySem.F.slot_list_append PySem.F.type_list_append mt_append (pe_meth0 (pv 5) T.cl_Queue T.m_Queue_waiting G_Queue_waiting (hr.mono (by first | decide | omega)) b_Queue_waiting .nil pass0) (pa_cons pe_non pa_nil)))
            (pss_one (ps_expr (pe_bm PySem.F.plainAttrs_list PySem.F.slot_list_append PySem.F.type_list_append mt_append (pe_meth0 (pv 5) T.cl_Queue T.m_Queue_working G_Queue_working (hr.mono (by first | decide | omega)) b_Queue_working .nil pass0) (pa_cons pe_non pa_nil)))))))))))))))
    (pss_one (ps_ret (pe_cmpR op_isN (pe_meth (pe_makeK0 T.mk_Queue G_Queue___init__ (hr.mono (by first | decide | omega)) rfl T.g_Queue b_Queue___init__0 pass0 pk_nil) T.cl_Queue T.m_Queue_take G_Queue_take (hr.mono (by first | decide | omega)) b_Queue_take .nil pass0 (pa_cons (pe_op op_pow pe_int pe_int) pa_nil)) pe_non (nomark _))))), ?_⟩
  have hu := hu_of hr
  refine ⟨_, rfl, a, ns, rfl, hS, fun i0 => ⟨smallN (by show 1 ≤ 1000; decide), fun p1 q1 => ?_⟩⟩
  have S1 := Same.new (u := .lst [.int i0]) q1
  have g1 : (upd H p1 (.lst [.int i0])) p1 = _ := upd_same
  generalize upd H p1 (.lst [.int i0]) = H1 at S1 g1 ⊢
  refine ⟨_, rfl, _, rfl, _, rfl, a, _, rfl, S1.seq hS, fun p2 q2 => ?_⟩
  have S2 := Same.new (u := .lst (cutV (ns.map V.int) (some 1) (some 3))) q2
  have g2 : (upd H1 p2 (.lst (cutV (ns.map V.int) (some 1) (some 3)))) p2 = _ := upd_same
  generalize upd H1 p2 (.lst (cutV (ns.map V.int) (some 1) (some 3))) = H2 at S2 g2 ⊢
  have hc : (cutV (ns.map V.int) (some 1) (some 3)).length ≤ 63 := Nat.le_trans (cutV_length _ _ _) (by rw [List.length_map]; exact hlen)
  refine ⟨p1, p2, _, _, rfl, rfl, S2 _ _ g1, g2, smallN (by show 1 + _ ≤ 1000; omega), fun p3 q3 => ?_⟩
  have g3 : (upd H2 p3 (.lst ([.int i0] ++ cutV (ns.map V.int) (some 1) (some 3)))) p3 = _ := upd_same
  generalize upd H2 p3 (.lst ([.int i0] ++ cutV (ns.map V.int) (some 1) (some 3))) = H3 at g3 ⊢
  clear S1 S2 g1 g2 q1 q2 q3
  generalize hcells : [V.int i0] ++ cutV (ns.map V.int) (some 1) (some 3) = cells at g3 ⊢
  have hci : ∀ x ∈ cells, ∃ z, x = .int z := fun x hx => by
    rw [← hcells] at hx
    rcases List.mem_append.mp hx with h | h
    · exact ⟨i0, List.mem_singleton.mp h⟩
    · exact cut_int h
  clear hcells hc
  refine ⟨p3, rfl, ⟨_, SqL.of g3⟩, for_list (K := K) (a := p3) (xs := cells) (fun _ σ H' => ∃ v1 v2 v3 v4 v5 v6 v7 v8 : Option V, σ = [some (.ref a), v1, v2, v3, v4, v5, v6, v7, v8] ∧ H' p3 = some (.lst cells))
    ⟨_, _, _, _, _, _, _, _, rfl, g3⟩ (fun _ σ H' _ ⟨_, _, _, _, _, _, _, _, _, g⟩ => SqL.of g) ?_ ?_⟩
  · rintro j x σ H4 hx ⟨v1, v2, v3, v4, v5, v6, v7, v8, rfl, g4⟩
    obtain ⟨z, rfl⟩ := hci x (mem_at hx)
    refine ⟨_, rfl, z, rfl, fun aw u0 hw0 hu0 => ?_⟩
    have w5 := well_upd (H := H4) (a := aw) hu0
    have n3 : p3 ≠ aw := ne_of_none g4 hw0
    have g5 := (Same.new (u := u0) hw0) _ _ g4
    generalize upd H4 aw u0 = H5 at w5 g5 ⊢
    refine ⟨_, rfl, smallN (by show 5 ≤ 1000; decide), fun p6 q6 => ?_⟩
    have S6 := Same.new (u := .lst [.int 1, .int 2, .int 3, .int 8, .int 1000]) q6
    have g6 : upd H5 p6 (.lst [.int 1, .int 2, .int 3, .int 8, .int 1000]) p6 = _ := upd_same
    have w6 := well_same w5 S6
    have n6 : p6 ≠ aw := well_ne3 w5 q6
    have g56 := S6 _ _ g5
    generalize upd H5 p6 (.lst [.int 1, .int 2, .int 3, .int 8, .int 1000]) = H6 at S6 g6 w6 g56 ⊢
    refine ⟨aw, p6, 0, _, rfl, w6, by omega, g6, n6, by show 0 < 5; decide, by show 5 ≤ 1000; decide, fun y u7 m7 hy hm7 hu7 => ?_⟩
    obtain ⟨lg, rfl, l1, l2⟩ : ∃ lg : Int, y = .int lg ∧ 1 ≤ lg ∧ lg ≤ 1000 := by
      simp only [List.mem_cons, List.not_mem_nil, or_false] at hy
      rcases hy with rfl | rfl | rfl | rfl | rfl <;> exact ⟨_, rfl, by decide, by decide⟩
    have w7 := well_upd (H := H6) (a := aw) hu7
    have g57 : upd H6 aw u7 p3 = _ := (upd_ne n3).trans g56
    generalize upd H6 aw u7 = H7 at w7 g57 ⊢
    clear S6 g6 w6 g56 w5 g5 n6 hy q6
    -- the keys
    refine ⟨smallN (by show 3 ≤ 1000; decide), fun t1 h1 => ⟨smallN (by show 3 ≤ 1000; decide), fun t2 h2 => ⟨smallN (by show 3 ≤ 1000; decide), fun t3 h3 => ⟨smallN (by show 3 ≤ 1000; decide), fun t4 h4 => ⟨smallN (by show 3 ≤ 1000; decide), fun t5 h5 => ⟨smallN (by show 5 ≤ 1000; decide), fun Ky h6 => ?_⟩⟩⟩⟩⟩⟩
    obtain ⟨hKy, S8⟩ : SpotsAt (upd (upd (upd (upd (upd (upd H7 t1 (.tup [.str "box", .str "x", .str "m"])) t2 (.tup [.str "box", .str "x", .str "mm"])) t3 (.tup [.str "box", .str "xx", .str "a"])) t4 (.tup [.str "cup", .str "x", .str "m-s10"])) t5 (.tup [.str "a", .str "x", .str "m-s9"])) Ky (.lst [.ref t1, .ref t2, .ref t3, .ref t4, .ref t5])) Ky keys5 ∧ Same H7 (upd (upd (upd (upd (upd (upd H7 t1 (.tup [.str "box", .str "x", .str "m"])) t2 (.tup [.str "box", .str "x", .str "mm"])) t3 (.tup [.str "box", .str "xx", .str "a"])) t4 (.tup [.str "cup", .str "x", .str "m-s10"])) t5 (.tup [.str "a", .str "x", .str "m-s9"])) Ky (.lst [.ref t1, .ref t2, .ref t3, .ref t4, .ref t5])) := by
      have e6 := Same.new (u := .lst [.ref t1, .ref t2, .ref t3, .ref t4, .ref t5]) h6
      have e5 := Same.trans' (Same.new (u := .tup [.str "a", .str "x", .str "m-s9"]) h5) e6
      have e4 := Same.trans' (Same.new (u := .tup [.str "cup", .str "x", .str "m-s10"]) h4) e5
      have e3 := Same.trans' (Same.new (u := .tup [.str "box", .str "xx", .str "a"]) h3) e4
      have e2 := Same.trans' (Same.new (u := .tup [.str "box", .str "x", .str "mm"]) h2) e3
      have e1 := Same.trans' (Same.new (u := .tup [.str "box", .str "x", .str "m"]) h1) e2
      exact ⟨⟨[t1, t2, t3, t4, t5], upd_same, .cons (e2 _ _ upd_same) (.cons (e3 _ _ upd_same) (.cons (e4 _ _ upd_same) (.cons (e5 _ _ upd_same) (.cons (e6 _ _ upd_same) .nil))))⟩, e1⟩
    generalize upd (upd (upd (upd (upd (upd H7 t1 (.tup [.str "box", .str "x", .str "m"])) t2 (.tup [.str "box", .str "x", .str "mm"])) t3 (.tup [.str "box", .str "xx", .str "a"])) t4 (.tup [.str "cup", .str "x", .str "m-s10"])) t5 (.tup [.str "a", .str "x", .str "m-s9"])) Ky (.lst [.ref t1, .ref t2, .ref t3, .ref t4, .ref t5]) = H8 at hKy S8 ⊢
    have w8 := well_same w7 S8
    have g8 := S8 _ _ g57
    clear S8 w7 g57 h1 h2 h3 h4 h5 h6
    -- the queue
    refine ⟨_, rfl, rfl, rfl, fun x dx hx hdx ndx => ⟨x, dx, lg, rfl, upd_same, l1, l2, fun A H9 eA he ht hd keep hq => ⟨rfl, ?_⟩⟩⟩
    have S9 : Same H8 H9 := fun b o hb => keep b o ((upd_ne (ne_of_none hb hx)).trans ((upd_ne (ne_of_none hb hdx)).trans hb)) (ne_of_none hb hx)
    have hKy9 := hKy.same S9
    have w9 := well_same w8 S9
    have g9 := S9 _ _ g8
    clear keep he ht hd S9 hKy w8 g8 hx hdx ndx
    subst eA
    refine ⟨_, _, rfl, ?_⟩
    refine fun M hM => ⟨smallN (by show 0 ≤ 1000; decide), fun R hR => fun Tk hTk => fun Dl hDl => ⟨_, rfl, _, rfl, ?_⟩⟩
    obtain ⟨kv1, ge, _⟩ := hq.ents
    obtain ⟨kv2, gt, _⟩ := hq.taken
    obtain ⟨kv3, gd, _⟩ := hq.delays
    have eM := Same.new (u := .dK []) hM
    have eR := Same.new (u := .lst []) hR
    have eT := Same.new (u := .dT []) hTk
    have eD := Same.new (u := .dT []) hDl
    have ap : Apart A ⟨M, Tk, Dl, Ky⟩ := by
      have s2 := Same.trans' eM eR
      have s3 := Same.trans' s2 eT
      exact ⟨ne_of_none (s2 _ _ ge) hTk, ne_of_none (s3 _ _ ge) hDl, ne_of_none (s2 _ _ gt) hTk, ne_of_none (s3 _ _ gt) hDl, ne_of_none (s2 _ _ gd) hTk, ne_of_none (s3 _ _ gd) hDl⟩
    have gM10 := Same.trans' (Same.trans' eR eT) eD _ _ (upd_same (H := H9) (a := M) (o := .dK []))
    have gR10 := Same.trans' eT eD _ _ (upd_same (H := upd H9 M (.dK [])) (a := R) (o := .lst []))
    have gT10 := eD _ _ (upd_same (H := upd (upd H9 M (.dK [])) R (.lst [])) (a := Tk) (o := .dT []))
    have gD10 : upd (upd (upd (upd H9 M (.dK [])) R (.lst [])) Tk (.dT [])) Dl (.dT []) Dl = _ := upd_same
    have S10 : Same H9 (upd (upd (upd (upd H9 M (.dK [])) R (.lst [])) Tk (.dT [])) Dl (.dT [])) := Same.trans' (Same.trans' (Same.trans' eM eR) eT) eD
    have nTD : Tk ≠ Dl := ne_of_none (upd_same (H := upd (upd H9 M (.dK [])) R (.lst [])) (a := Tk) (o := .dT [])) hDl
    clear eM eR eT eD hR hTk hDl ge gt gd
    generalize upd (upd (upd (upd H9 M (.dK [])) R (.lst [])) Tk (.dT [])) Dl (.dT []) = H10 at gM10 gR10 gT10 gD10 S10 ⊢
    refine ⟨gM10, mK R ⟨M, Tk, Dl, Ky⟩ lg, rfl, by show 5 ≤ 15; decide, ?_⟩
    rw [mK_merge]
    have S11 : Same H9 (upd H10 M (.dK (mK R ⟨M, Tk, Dl, Ky⟩ lg))) := fun b o hb => (upd_ne (ne_of_none hb hM)).trans (S10 _ _ hb)
    have hm : MAt (upd H10 M (.dK (mK R ⟨M, Tk, Dl, Ky⟩ lg))) ⟨M, Tk, Dl, Ky⟩ ⟨[], [], [], lg⟩ :=
      ⟨⟨R, upd_same, [], (upd_ne (ne_of gR10 gM10 fun z => nomatch z)).trans gR10, .nil⟩, ⟨[], (upd_ne (ne_of gT10 gM10 fun z => nomatch z)).trans gT10, .nil⟩, ⟨[], (upd_ne (ne_of gD10 gM10 fun z => nomatch z)).trans gD10, .nil⟩, hKy9.same S11, nTD⟩
    have hq11 := hq.same S11
    have w11 := well_same w9 S11
    have g11 := S11 _ _ g9
    generalize upd H10 M (.dK (mK R ⟨M, Tk, Dl, Ky⟩ lg)) = H11 at hm hq11 w11 g11 ⊢
    clear S10 S11 gM10 gR10 gT10 gD10 hKy9 hq w9 g9 hM
    have kn : Knows (QS.new lg) ⟨[], [], [], lg⟩ := knows_new (by omega)
    refine ⟨_, rfl, aw, m7, 100, rfl, w11, by omega, by decide, by decide, fun r u12 n12 r0 r1 hn12 hu12 => ?_⟩
    have w12 := well_upd (H := H11) (a := aw) hu12
    have K12 : Keep aw H11 (upd H11 aw u12) := Keep.at_
    have hq12 := hq11.keep w11 K12
    have hm12 := hm.keep w11 K12
    have g12 := K12 _ _ n3 g11
    generalize upd H11 aw u12 = H12 at w12 K12 hq12 hm12 g12 ⊢
    refine ⟨_, _, rfl, rfl, 20 + r, rfl, by omega, by omega, for_range (lo := 0) (n := (20 + r).toNat) (fun i σ H' => ∃ (c : Int) (n' : Nat) (s : QS) (m : MS) (vt : Option V), σ = [some (.ref a), some (.int z), some (.ref aw), some (.int lg), some (.ref Ky), some (.ref A.q), some (.int c), some (.ref M), vt] ∧ WellAt H' aw n' ∧ n' ≤ 100 + 20 * i ∧ QAt K H' A s ∧ MAt H' ⟨M, Tk, Dl, Ky⟩ m ∧ Knows s m ∧ Bd s (3 * i) ∧ 0 ≤ c ∧ H' p3 = some (.lst cells))
      ⟨0, n12, QS.new lg, _, _, rfl, w12, by omega, hq12, hm12, kn, ⟨Nat.zero_le _, Nat.zero_le _, Nat.zero_le _⟩, by decide, g12⟩ ?_ ?_⟩
    · rintro i σ H13 hi ⟨c, n13, s, m, vt, rfl, w13, hn13, hq13, hm13, kn, bd, hc, g13⟩
      have hi : i < 120 := by omega
      refine ⟨_, rfl, _, rfl, smallN (by show 6 ≤ 1000; decide), fun p14 q14 => ?_⟩
      have S14 := Same.new (u := .lst [.int 0, .int 0, .int 0, .int 1, .int 1, .int 3]) q14
      have g14 : upd H13 p14 (.lst [.int 0, .int 0, .int 0, .int 1, .int 1, .int 3]) p14 = _ := upd_same
      have n14 : p14 ≠ aw := well_ne3 w13 q14
      have w14 := well_same w13 S14
      have hq14 := hq13.same S14
      have hm14 := hm13.same S14
      have c14 := S14 _ _ g13
      generalize upd H13 p14 (.lst [.int 0, .int 0, .int 0, .int 1, .int 1, .int 3]) = H14 at S14 g14 w14 hq14 hm14 c14 ⊢
      refine ⟨aw, p14, n13, _, rfl, w14, by omega, g14, n14, by show 0 < 6; decide, by show 6 ≤ 1000; decide, fun y u15 n15 hy hn15 hu15 => ?_⟩
      obtain ⟨dc, rfl, dc0⟩ : ∃ dc : Int, y = .int dc ∧ 0 ≤ dc := by
        simp only [List.mem_cons, List.not_mem_nil, or_false] at hy
        rcases hy with rfl | rfl | rfl | rfl | rfl | rfl <;> exact ⟨_, rfl, by decide⟩
      have w15 := well_upd (H := H14) (a := aw) hu15
      have K15 : Keep aw H14 (upd H14 aw u15) := Keep.at_
      have hq15 := hq14.keep w14 K15
      have hm15 := hm14.keep w14 K15
      have c15 := K15 _ _ n3 c14
      generalize upd H14 aw u15 = H15 at w15 hq15 hm15 c15 ⊢
      clear K15 S14 g14 w14 hq14 hm14 c14 w13 hq13 hm13 g13 hy n14 q14
      refine ⟨_, _, rfl, rfl, ?_⟩
      refine ⟨_, rfl, _, rfl, _, rfl, _, rfl, aw, n15, A, s, ⟨M, Tk, Dl, Ky⟩, m, c + dc, 3 * i, rfl, w15, by omega, hq15, hm15, ap, kn, bd, by omega, by omega, fun H16 n16 s' m' L16 w16 hn16 hq16 hm16 kn' bd' => ?_⟩
      have c16 := L16 _ _ n3 c15 (.inl ⟨_, rfl⟩)
      have few' : Small s' := ⟨by have := bd'.e; omega, by have := bd'.t; omega, by have := bd'.d; omega⟩
      refine ⟨_, rfl, iteF ?_⟩
      refine ⟨_, rfl, _, rfl, A, s', ⟨M, Tk, Dl, Ky⟩, m', rfl, hq16, hm16, kn', few', fun H17 S17 => ⟨_, rfl, iteF ?_⟩⟩
      have hq17 := hq16.same S17
      refine ⟨_, rfl, A.q, A.dx, _, rfl, hq17.ob, qF_no (by decide +kernel), A, s', rfl, hq17, few', fun L H18 hL S18 w18 => ?_⟩
      obtain ⟨ps, gL, hps⟩ := w18
      have lps : ps.length ≤ 1000 := by
        rw [pair_len hps]; unfold QS.waiting rowsOf; rw [srtD_len, List.length_map]; have := bd'.e; omega
      refine ⟨.inl ⟨rfl, _, SqL.of gL⟩, L, _, _, rfl, rfl, gL, small1000 (by rw [List.length_map]; exact lps), ?_⟩
      have S19 : Same H17 (upd H18 L (.lst (ps.map V.ref ++ [.non]))) := fun b o hb => (upd_ne (ne_of_none hb hL)).trans (S18 _ _ hb)
      generalize upd H18 L (.lst (ps.map V.ref ++ [.non])) = H19 at S19 ⊢
      have hq19 := hq17.same S19
      refine ⟨_, rfl, A.q, A.dx, _, rfl, hq19.ob, qF_no (by decide +kernel), A, s', rfl, hq19, kn'.okT, fun L2 H20 hL2 S20 w20 => ?_⟩
      obtain ⟨qs, gL2, hqs⟩ := w20
      have lqs : qs.length ≤ 1000 := by
        rw [pair_len hqs]; unfold QS.working; rw [srtD_len, List.length_map]; have := bd'.t; omega
      refine ⟨.inl ⟨rfl, _, SqL.of gL2⟩, L2, _, _, rfl, rfl, gL2, small1000 (by rw [List.length_map]; exact lqs), ?_⟩
      have S21 : Same H19 (upd H20 L2 (.lst (qs.map V.ref ++ [.non]))) := fun b o hb => (upd_ne (ne_of_none hb hL2)).trans (S20 _ _ hb)
      generalize upd H20 L2 (.lst (qs.map V.ref ++ [.non])) = H21 at S21 ⊢
      have Sall := Same.trans' S17 (Same.trans' S19 S21)
      exact ⟨c + dc, n16, s', m', _, rfl, well_same w16 Sall, by omega, hq16.same Sall, hm16.same Sall, kn', bd'.mono (by omega), by omega, Sall _ _ c16⟩
    · rintro σ H13 ⟨c, n13, s, m, vt, rfl, w13, hn13, hq13, hm13, kn, bd, hc, g13⟩
      exact ⟨_, _, _, _, _, _, _, _, rfl, g13⟩
  · rintro σ H4 _
    refine ⟨rfl, rfl, fun x dx hx hdx ndx => ⟨x, dx, 1, rfl, upd_same, by decide, by decide, fun A H9 eA he ht hd keep hq => ⟨rfl, ?_⟩⟩⟩
    subst eA
    refine ⟨A.q, A.dx, _, rfl, hq.ob, qF_no (by decide +kernel), _, _, rfl, rfl, ⟨by decide, by decide, by decide⟩, A, QS.new 1, _, rfl, hq, by decide, small_new 1, fun v H10 O10 hq10 hv => ?_⟩
    have hv : v = .non := hv
    subst hv
    exact ⟨rfl, k H10⟩

def dd_is_user_name : He.DefD := ⟨("is_user_name", none), "is_user_name", "is_user_name", defArgs s_is_user_name, defBody s_is_user_name, defScope s_is_user_name, [], []⟩
def dd_number_of : He.DefD := ⟨("number_of", none), "number_of", "number_of", defArgs s_number_of, defBody s_number_of, defScope s_number_of, [], []⟩
def dd_part_of : He.DefD := ⟨("part_of", none), "part_of", "part_of", defArgs s_part_of, defBody s_part_of, defScope s_part_of, [], []⟩
def dd_apart : He.DefD := ⟨("apart", none), "apart", "apart", defArgs s_apart, defBody s_apart, defScope s_apart, [], []⟩
def dd_is_maker : He.DefD := ⟨("is_maker", none), "is_maker", "is_maker", defArgs s_is_maker, defBody s_is_maker, defScope s_is_maker, [], []⟩
def dd_is_name : He.DefD := ⟨("is_name", none), "is_name", "is_name", defArgs s_is_name, defBody s_is_name, defScope s_is_name, [], []⟩
def dd_is_integer : He.DefD := ⟨("is_integer", none), "is_integer", "is_integer", defArgs s_is_integer, defBody s_is_integer, defScope s_is_integer, [], []⟩
def dd_check_number : He.DefD := ⟨("check_number", none), "check_number", "check_number", defArgs s_check_number, defBody s_check_number, defScope s_check_number, [.non], []⟩
def dd_check_key : He.DefD := ⟨("check_key", none), "check_key", "check_key", defArgs s_check_key, defBody s_check_key, defScope s_check_key, [], []⟩
def dd__law_cell_at : He.DefD := ⟨("_law_cell_at", none), "_law_cell_at", "_law_cell_at", defArgs s__law_cell_at, defBody s__law_cell_at, defScope s__law_cell_at, [], []⟩
def dd__law_well : He.DefD := ⟨("_law_well", none), "_law_well", "_law_well", defArgs s__law_well, defBody s__law_well, defScope s__law_well, [], []⟩
def dd__law_draw : He.DefD := ⟨("_law_draw", none), "_law_draw", "_law_draw", defArgs s__law_draw, defBody s__law_draw, defScope s__law_draw, [], []⟩
def dd__law_one : He.DefD := ⟨("_law_one", none), "_law_one", "_law_one", defArgs s__law_one, defBody s__law_one, defScope s__law_one, [], []⟩
def dd__law_enter : He.DefD := ⟨("_law_enter", none), "_law_enter", "_law_enter", defArgs s__law_enter, defBody s__law_enter, defScope s__law_enter, [], []⟩
def dd__law_added : He.DefD := ⟨("_law_added", none), "_law_added", "_law_added", defArgs s__law_added, defBody s__law_added, defScope s__law_added, [], []⟩
def dd__law_ended : He.DefD := ⟨("_law_ended", none), "_law_ended", "_law_ended", defArgs s__law_ended, defBody s__law_ended, defScope s__law_ended, [], []⟩
def dd__law_step : He.DefD := ⟨("_law_step", none), "_law_step", "_law_step", defArgs s__law_step, defBody s__law_step, defScope s__law_step, [], []⟩
def dd__law_stands : He.DefD := ⟨("_law_stands", none), "_law_stands", "_law_stands", defArgs s__law_stands, defBody s__law_stands, defScope s__law_stands, [], []⟩
def dd_law : He.DefD := ⟨("law", none), "law", "law", defArgs s_law, defBody s_law, defScope s_law, [], []⟩
def dd_Queue___init__ : He.DefD := ⟨("Queue", some "__init__"), "__init__", "Queue.__init__", defArgs s_Queue___init__, defBody s_Queue___init__, defScope s_Queue___init__, [], [("most", .int 1)]⟩
def dd_Queue_put : He.DefD := ⟨("Queue", some "put"), "put", "Queue.put", defArgs s_Queue_put, defBody s_Queue_put, defScope s_Queue_put, [], []⟩
def dd_Queue_add : He.DefD := ⟨("Queue", some "add"), "add", "Queue.add", defArgs s_Queue_add, defBody s_Queue_add, defScope s_Queue_add, [], []⟩
def dd_Queue_take : He.DefD := ⟨("Queue", some "take"), "take", "Queue.take", defArgs s_Queue_take, defBody s_Queue_take, defScope s_Queue_take, [], []⟩
def dd_Queue_check_taken : He.DefD := ⟨("Queue", some "check_taken"), "check_taken", "Queue.check_taken", defArgs s_Queue_check_taken, defBody s_Queue_check_taken, defScope s_Queue_check_taken, [], []⟩
def dd_Queue_done : He.DefD := ⟨("Queue", some "done"), "done", "Queue.done", defArgs s_Queue_done, defBody s_Queue_done, defScope s_Queue_done, [], []⟩
def dd_Queue_retry : He.DefD := ⟨("Queue", some "retry"), "retry", "Queue.retry", defArgs s_Queue_retry, defBody s_Queue_retry, defScope s_Queue_retry, [], []⟩
def dd_Queue_forget : He.DefD := ⟨("Queue", some "forget"), "forget", "Queue.forget", defArgs s_Queue_forget, defBody s_Queue_forget, defScope s_Queue_forget, [], []⟩
def dd_Queue_delay : He.DefD := ⟨("Queue", some "delay"), "delay", "Queue.delay", defArgs s_Queue_delay, defBody s_Queue_delay, defScope s_Queue_delay, [], []⟩
def dd_Queue_waiting : He.DefD := ⟨("Queue", some "waiting"), "waiting", "Queue.waiting", defArgs s_Queue_waiting, defBody s_Queue_waiting, defScope s_Queue_waiting, [], []⟩
def dd_Queue_working : He.DefD := ⟨("Queue", some "working"), "working", "Queue.working", defArgs s_Queue_working, defBody s_Queue_working, defScope s_Queue_working, [], []⟩
def dd_Queue_next_time : He.DefD := ⟨("Queue", some "next_time"), "next_time", "Queue.next_time", defArgs s_Queue_next_time, defBody s_Queue_next_time, defScope s_Queue_next_time, [], []⟩
def fn : List He.DefD := [dd_is_user_name, dd_number_of, dd_part_of, dd_apart, dd_is_maker, dd_is_name, dd_is_integer, dd_check_number, dd_check_key, dd__law_cell_at, dd__law_well, dd__law_draw, dd__law_one, dd__law_enter, dd__law_added, dd__law_ended, dd__law_step, dd__law_stands, dd_law, dd_Queue___init__, dd_Queue_put, dd_Queue_add, dd_Queue_take, dd_Queue_check_taken, dd_Queue_done, dd_Queue_retry, dd_Queue_forget, dd_Queue_delay, dd_Queue_waiting, dd_Queue_working, dd_Queue_next_time]
def fa : List He.Fa := [.glo "is_user_name", .glo "number_of", .glo "part_of", .glo "apart", .glo "is_maker", .glo "is_name", .glo "is_integer", .glo "check_number", .glo "check_key", .glo "_law_cell_at", .glo "_law_well", .glo "_law_draw", .glo "_law_one", .glo "_law_enter", .glo "_law_added", .glo "_law_ended", .glo "_law_step", .glo "_law_stands", .glo "law", .glo "PlaneError", .glo "BadKey", .glo "BadValue", .glo "NotTaken", .glo "Queue", .free "len", .free "int", .free "bool", .free "str", .free "tuple", .free "range", .free "isinstance", .free "max", .free "min", .free "all", .free "sorted", .free "ValueError", .str "SMALL" "abcdefghijklmnopqrstuvwxyz", .str "DIGITS" "0123456789", .int "MOST_SIGNS" 10, .int "MOST_MADE" 22, .int "MOST_DELAY" 1000, .glo "HIGHEST", .cls "Queue", .mkr "Queue", .noat "Queue" "longest", .noat "Queue" "entries", .noat "Queue" "taken", .noat "Queue" "delays", .noat "Queue" "count", .meth "Queue" "put", .meth "Queue" "add", .meth "Queue" "take", .meth "Queue" "check_taken", .meth "Queue" "done", .meth "Queue" "retry", .meth "Queue" "forget", .meth "Queue" "delay", .meth "Queue" "waiting", .meth "Queue" "working", .meth "Queue" "next_time"]
def tf : List He.Defn := []
def ts : List He.Tab := [((fun K => He.ga K "HIGHEST"), ["s", "j", "r"])]
abbrev R : PySem.W.OpenRow := PySem.W.OpenLaw.row PySem.Challenge.rw_controlplane_k43_queues_by_a_list
abbrev hk : PySem.W.Hook := hookY fa fn ts tf exB
def ob (s : PySem.W.SharedT) : He.AlX := obsY fa fn ts tf exB (HandSHeadRun.getT s)
theorem ob_eq (s : PySem.W.SharedT) : ob s = hk.obs s.abs := obsY_eq (HandSHeadRun.getT_eq s)
theorem run (w : World) : HandSHeadRun.RunEq R (PySem.W.view R.prog [35]) hk ob 4000 [("__name__" : PySem.Str), ("PlaneError" : PySem.Str), ("BadKey" : PySem.Str), ("BadValue" : PySem.Str), ("NotTaken" : PySem.Str), ("Queue" : PySem.Str), ("is_user_name" : PySem.Str), ("number_of" : PySem.Str), ("part_of" : PySem.Str), ("apart" : PySem.Str), ("is_maker" : PySem.Str), ("is_name" : PySem.Str), ("is_integer" : PySem.Str), ("check_number" : PySem.Str), ("check_key" : PySem.Str), ("_law_cell_at" : PySem.Str), ("_law_well" : PySem.Str), ("_law_draw" : PySem.Str), ("_law_one" : PySem.Str), ("_law_enter" : PySem.Str), ("_law_added" : PySem.Str), ("_law_ended" : PySem.Str), ("_law_step" : PySem.Str), ("_law_stands" : PySem.Str), ("SMALL" : PySem.Str), ("DIGITS" : PySem.Str), ("MOST_SIGNS" : PySem.Str), ("MOST_MADE" : PySem.Str), ("HIGHEST" : PySem.Str), ("MOST_DELAY" : PySem.Str)] w := PySem.W.byRow2 "special-get-raises" (P := fun w => HandSHeadRun.RunEq R (PySem.W.view R.prog [35]) hk ob 4000 [("__name__" : PySem.Str), ("PlaneError" : PySem.Str), ("BadKey" : PySem.Str), ("BadValue" : PySem.Str), ("NotTaken" : PySem.Str), ("Queue" : PySem.Str), ("is_user_name" : PySem.Str), ("number_of" : PySem.Str), ("part_of" : PySem.Str), ("apart" : PySem.Str), ("is_maker" : PySem.Str), ("is_name" : PySem.Str), ("is_integer" : PySem.Str), ("check_number" : PySem.Str), ("check_key" : PySem.Str), ("_law_cell_at" : PySem.Str), ("_law_well" : PySem.Str), ("_law_draw" : PySem.Str), ("_law_one" : PySem.Str), ("_law_enter" : PySem.Str), ("_law_added" : PySem.Str), ("_law_ended" : PySem.Str), ("_law_step" : PySem.Str), ("_law_stands" : PySem.Str), ("SMALL" : PySem.Str), ("DIGITS" : PySem.Str), ("MOST_SIGNS" : PySem.Str), ("MOST_MADE" : PySem.Str), ("HIGHEST" : PySem.Str), ("MOST_DELAY" : PySem.Str)] w) (fun w => by intro os; kernel_rfl) (fun w => by intro os; kernel_rfl) w
theorem facts {P : Program} {w : World} {K : PySem.W.Frag} {h : Heap} {mg : Str → Option Value} {f : Addr} (X : K.In h) (G : h.Ns mainGlobals mg) (hfa : mg ("law" : Str) = some (.ref f)) (c : He.SaysX fa fn ts tf exB w h K) :
    ∃ fd : FuncData, (∀ (s : Shared) (v : Value), BindsTo s fd ⟨[v], []⟩ [("_law_script", v)]) ∧ ∀ base : Heap, K.In base → base.Ns mainGlobals mg → FnOk P w K mg base CX0 58 f fd ["_law_script"] (sp_law K) := by
  have cd := c.t.d
  have T : Txt K mg w := ⟨He.glo_ok X G (cd.fact 0 (f := .glo "is_user_name") rfl),
    cd.def_ 0 (d := dd_is_user_name) rfl,
    He.glo_ok X G (cd.fact 1 (f := .glo "number_of") rfl),
    cd.def_ 1 (d := dd_number_of) rfl,
    He.glo_ok X G (cd.fact 2 (f := .glo "part_of") rfl),
    cd.def_ 2 (d := dd_part_of) rfl,
    He.glo_ok X G (cd.fact 3 (f := .glo "apart") rfl),
    cd.def_ 3 (d := dd_apart) rfl,
    He.glo_ok X G (cd.fact 4 (f := .glo "is_maker") rfl),
    cd.def_ 4 (d := dd_is_maker) rfl,
    He.glo_ok X G (cd.fact 5 (f := .glo "is_name") rfl),
    cd.def_ 5 (d := dd_is_name) rfl,
    He.glo_ok X G (cd.fact 6 (f := .glo "is_integer") rfl),
    cd.def_ 6 (d := dd_is_integer) rfl,
    He.glo_ok X G (cd.fact 7 (f := .glo "check_number") rfl),
    cd.def_ 7 (d := dd_check_number) rfl,
    He.glo_ok X G (cd.fact 8 (f := .glo "check_key") rfl),
    cd.def_ 8 (d := dd_check_key) rfl,
    He.glo_ok X G (cd.fact 9 (f := .glo "_law_cell_at") rfl),
    cd.def_ 9 (d := dd__law_cell_at) rfl,
    He.glo_ok X G (cd.fact 10 (f := .glo "_law_well") rfl),
    cd.def_ 10 (d := dd__law_well) rfl,
    He.glo_ok X G (cd.fact 11 (f := .glo "_law_draw") rfl),
    cd.def_ 11 (d := dd__law_draw) rfl,
    He.glo_ok X G (cd.fact 12 (f := .glo "_law_one") rfl),
    cd.def_ 12 (d := dd__law_one) rfl,
    He.glo_ok X G (cd.fact 13 (f := .glo "_law_enter") rfl),
    cd.def_ 13 (d := dd__law_enter) rfl,
    He.glo_ok X G (cd.fact 14 (f := .glo "_law_added") rfl),
    cd.def_ 14 (d := dd__law_added) rfl,
    He.glo_ok X G (cd.fact 15 (f := .glo "_law_ended") rfl),
    cd.def_ 15 (d := dd__law_ended) rfl,
    He.glo_ok X G (cd.fact 16 (f := .glo "_law_step") rfl),
    cd.def_ 16 (d := dd__law_step) rfl,
    He.glo_ok X G (cd.fact 17 (f := .glo "_law_stands") rfl),
    cd.def_ 17 (d := dd__law_stands) rfl,
    He.glo_ok X G (cd.fact 18 (f := .glo "law") rfl),
    cd.def_ 18 (d := dd_law) rfl,
    cd.def_ 19 (d := dd_Queue___init__) rfl,
    cd.def_ 20 (d := dd_Queue_put) rfl,
    cd.def_ 21 (d := dd_Queue_add) rfl,
    cd.def_ 22 (d := dd_Queue_take) rfl,
    cd.def_ 23 (d := dd_Queue_check_taken) rfl,
    cd.def_ 24 (d := dd_Queue_done) rfl,
    cd.def_ 25 (d := dd_Queue_retry) rfl,
    cd.def_ 26 (d := dd_Queue_forget) rfl,
    cd.def_ 27 (d := dd_Queue_delay) rfl,
    cd.def_ 28 (d := dd_Queue_waiting) rfl,
    cd.def_ 29 (d := dd_Queue_working) rfl,
    cd.def_ 30 (d := dd_Queue_next_time) rfl,
    He.glo_ok X G (cd.fact 19 (f := .glo "PlaneError") rfl),
    He.glo_ok X G (cd.fact 20 (f := .glo "BadKey") rfl),
    He.glo_ok X G (cd.fact 21 (f := .glo "BadValue") rfl),
    He.glo_ok X G (cd.fact 22 (f := .glo "NotTaken") rfl),
    He.glo_ok X G (cd.fact 23 (f := .glo "Queue") rfl),
    He.free_ok X G (cd.fact 24 (f := .free "len") rfl),
    He.free_ok X G (cd.fact 25 (f := .free "int") rfl),
    He.free_ok X G (cd.fact 26 (f := .free "bool") rfl),
    He.free_ok X G (cd.fact 27 (f := .free "str") rfl),
    He.free_ok X G (cd.fact 28 (f := .free "tuple") rfl),
    He.free_ok X G (cd.fact 29 (f := .free "range") rfl),
    He.free_ok X G (cd.fact 30 (f := .free "isinstance") rfl),
    He.free_ok X G (cd.fact 31 (f := .free "max") rfl),
    He.free_ok X G (cd.fact 32 (f := .free "min") rfl),
    He.free_ok X G (cd.fact 33 (f := .free "all") rfl),
    He.free_ok X G (cd.fact 34 (f := .free "sorted") rfl),
    He.free_ok X G (cd.fact 35 (f := .free "ValueError") rfl),
    He.str_ok X G (cd.fact 36 (f := .str "SMALL" "abcdefghijklmnopqrstuvwxyz") rfl),
    He.str_ok X G (cd.fact 37 (f := .str "DIGITS" "0123456789") rfl),
    He.int_ok X G (cd.fact 38 (f := .int "MOST_SIGNS" 10) rfl),
    He.int_ok X G (cd.fact 39 (f := .int "MOST_MADE" 22) rfl),
    He.int_ok X G (cd.fact 40 (f := .int "MOST_DELAY" 1000) rfl),
    He.glo_ok X G (cd.fact 41 (f := .glo "HIGHEST") rfl),
    He.cls_ok (cd.fact 42 (f := .cls "Queue") rfl),
    He.mkr_ok (cd.fact 43 (f := .mkr "Queue") rfl),
    He.noat_ok (cd.fact 44 (f := .noat "Queue" "longest") rfl),
    He.noat_ok (cd.fact 45 (f := .noat "Queue" "entries") rfl),
    He.noat_ok (cd.fact 46 (f := .noat "Queue" "taken") rfl),
    He.noat_ok (cd.fact 47 (f := .noat "Queue" "delays") rfl),
    He.noat_ok (cd.fact 48 (f := .noat "Queue" "count") rfl),
    He.meth_ok (cd.fact 49 (f := .meth "Queue" "put") rfl),
    He.meth_ok (cd.fact 50 (f := .meth "Queue" "add") rfl),
    He.meth_ok (cd.fact 51 (f := .meth "Queue" "take") rfl),
    He.meth_ok (cd.fact 52 (f := .meth "Queue" "check_taken") rfl),
    He.meth_ok (cd.fact 53 (f := .meth "Queue" "done") rfl),
    He.meth_ok (cd.fact 54 (f := .meth "Queue" "retry") rfl),
    He.meth_ok (cd.fact 55 (f := .meth "Queue" "forget") rfl),
    He.meth_ok (cd.fact 56 (f := .meth "Queue" "delay") rfl),
    He.meth_ok (cd.fact 57 (f := .meth "Queue" "waiting") rfl),
    He.meth_ok (cd.fact 58 (f := .meth "Queue" "working") rfl),
    He.meth_ok (cd.fact 59 (f := .meth "Queue" "next_time") rfl),
    c.more,
    c.t.tab 0 rfl⟩
  obtain ⟨fd, F⟩ := T.d_law
  have e := hfa.symm.trans T.g_law
  cases e
  have b := FunD.bindsA (ps := ["_law_script"]) F fun _ _ _ _ _ _ us hl => match us, hl with | [_], _ => rfl
  exact ⟨fd, fun s v => b s [v] rfl, fun base _ _ => ok_law T F⟩
end Lk
open PySem PySem.W PySem.Calls PyProof.Rows
theorem PySem.Challenge.cw_controlplane_k43_queues_by_a_list_holds : PySem.Challenge.rw_controlplane_k43_queues_by_a_list.Holds := by
  w_on; o_law
  refine HandSHeadRun.head_any (r := OpenLaw.row PySem.Challenge.rw_controlplane_k43_queues_by_a_list) (q := view (OpenLaw.row PySem.Challenge.rw_controlplane_k43_queues_by_a_list).prog [35]) (H := Lk.hk) (ob := Lk.ob) (M := 4000) (loose := [("__name__" : PySem.Str), ("PlaneError" : PySem.Str), ("BadKey" : PySem.Str), ("BadValue" : PySem.Str), ("NotTaken" : PySem.Str), ("Queue" : PySem.Str), ("is_user_name" : PySem.Str), ("number_of" : PySem.Str), ("part_of" : PySem.Str), ("apart" : PySem.Str), ("is_maker" : PySem.Str), ("is_name" : PySem.Str), ("is_integer" : PySem.Str), ("check_number" : PySem.Str), ("check_key" : PySem.Str), ("_law_cell_at" : PySem.Str), ("_law_well" : PySem.Str), ("_law_draw" : PySem.Str), ("_law_one" : PySem.Str), ("_law_enter" : PySem.Str), ("_law_added" : PySem.Str), ("_law_ended" : PySem.Str), ("_law_step" : PySem.Str), ("_law_stands" : PySem.Str), ("SMALL" : PySem.Str), ("DIGITS" : PySem.Str), ("MOST_SIGNS" : PySem.Str), ("MOST_MADE" : PySem.Str), ("HIGHEST" : PySem.Str), ("MOST_DELAY" : PySem.Str)]) (d := HandSHeadRun.topDef (OpenLaw.row PySem.Challenge.rw_controlplane_k43_queues_by_a_list).prog 35) (kwd := []) Lk.ob_eq
    (by kernel_rfl) (fun s => by kernel_rfl) Lk.run (by kernel_rfl) (by kernel_rfl) (by kernel_rfl) (by rfl) (by first | assumption | decide +kernel) (by decide +kernel) ⟨rfl, rfl, rfl, rfl, rfl, by decide +kernel⟩ ?hw ?hc
  case hw => w_witness2
  case hc =>
    refine L2.walk_ofE (l := PySem.Challenge.rw_controlplane_k43_queues_by_a_list) (n := 63) (k := 58) (x := "_law_script") (CX := L2.CX0) rfl (by decide) (by kernel_rfl) ⟨rfl, by decide, by decide⟩ ?F (fun _ _ _ _ z => z)
    intro w mg fa h Y G hmg0
    obtain ⟨K, KX, c⟩ := Y
    have hmg : mg ("law" : PySem.Str) = some (.ref fa) := by
      have e : (HandSHeadRun.topDef (OpenLaw.row PySem.Challenge.rw_controlplane_k43_queues_by_a_list).prog 35).name = ("law" : PySem.Str) := by kernel_rfl
      rw [← e]
      exact hmg0
    obtain ⟨fd, hb, hF⟩ := Lk.facts (P := (PySem.Challenge.rw_controlplane_k43_queues_by_a_list).prog) (w := w) KX G hmg c
    exact ⟨K, fd, Lk.sp_law K, KX, hb, fun H a ns hl _ hS => ⟨a, ns, rfl, hS, hl, fun _ => rfl⟩, hF⟩

