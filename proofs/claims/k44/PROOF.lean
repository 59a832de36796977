import PyProof.Rows.All
import Wide.All
import OpenK.AllK
import Wide.FinOn
import KE.KStateDown
import Lean
import HandS.ForMost
import HandS.Flow
import HandS.Style
import HandS.Wide
import HandS.IsInst
import HandS.TupAny
import HandS.More
import HandS.WordsExc
import HandS.Defaults
import HandS.Lambda
import HandS.Head0
import HandS.Head1
import HandS.Head2
import HandS.HeadEnd
import HandS.HeadHook1
import HandS.HeadHook2
import HandS.Walk
import HandS.TryOnly
import HandS.StrSplit
import PyProof.Rows.StrSplitMax
import PyProof.StrLawsOccR
import HandS.FStr
import HandS.ExcInit
import HandS.ExcField
import HandS.ExcOwn
import KE.KExcIs
import HandS.HeadHook3
import HandS.HeadHook4
import HandS.HeadWalk
import HandS.EndTab
import HandS.WrittenGet
import PyProof.Rows.StrRev
import KE.KRevSl
import HandS.Replace
import HandS.DictTup
import HandS.MakeKwOnly
import HandS.Deep
import HandS.DeepEq
import HandS.Conv
import KE.DataMinMax
import KE.SortData
import KE.DatumOrd
import KE.KDictWalk
import KE.Datum
import HandS.CallRecv
import HandS.TupAny
import HandS.DictEq
import HandS.SortKw
import PyProof.Claim2Refuses
import KE.KDictCopyH
import KE.SortCalls
import KE.KDictDisplayH
import HandS.TupSets
import PySem.Challenge.RW_controlplane_k44_whole_nothing_is_forgot
set_option Elab.async false
set_option linter.all false
set_option maxRecDepth 100000
set_option maxHeartbeats 4000000
namespace Lk
open PySem PySem.Spec PyProof.Rows L2
def topS (i : Nat) : Stmt := PySem.Challenge.pw_controlplane_k44_whole_nothing_is_forgot.main.body.getD i (.Pass ⟨0, 0, 0, 0⟩)
abbrev s__wall : Stmt := topS 0
abbrev N__wall : List Str := ["k"]
abbrev ps__wall : List Str := ["k"]
theorem sc__wall : FnScope N__wall ps__wall (defScope s__wall) := ⟨rfl, rfl, rfl, by decide +kernel, rfl, by decide +kernel, by decide +kernel⟩
abbrev s_is_user_name : Stmt := topS 12
abbrev N_is_user_name : List Str := ["value", "sign"]
abbrev ps_is_user_name : List Str := ["value"]
theorem sc_is_user_name : FnScope N_is_user_name ps_is_user_name (defScope s_is_user_name) := ⟨rfl, rfl, rfl, by decide +kernel, rfl, by decide +kernel, by decide +kernel⟩
abbrev s_number_of : Stmt := topS 13
abbrev N_number_of : List Str := ["text", "highest", "sign"]
abbrev ps_number_of : List Str := ["text", "highest"]
theorem sc_number_of : FnScope N_number_of ps_number_of (defScope s_number_of) := ⟨rfl, rfl, rfl, by decide +kernel, rfl, by decide +kernel, by decide +kernel⟩
abbrev s_part_of : Stmt := topS 14
abbrev N_part_of : List Str := ["letter", "text"]
abbrev ps_part_of : List Str := ["letter", "text"]
theorem sc_part_of : FnScope N_part_of ps_part_of (defScope s_part_of) := ⟨rfl, rfl, rfl, by decide +kernel, rfl, by decide +kernel, by decide +kernel⟩
abbrev s_apart : Stmt := topS 15
abbrev N_apart : List Str := ["value", "maker", "end", "what"]
abbrev ps_apart : List Str := ["value"]
theorem sc_apart : FnScope N_apart ps_apart (defScope s_apart) := ⟨rfl, rfl, rfl, by decide +kernel, rfl, by decide +kernel, by decide +kernel⟩
abbrev s_is_maker : Stmt := topS 16
abbrev N_is_maker : List Str := ["value", "letter", "told"]
abbrev ps_is_maker : List Str := ["value", "letter"]
theorem sc_is_maker : FnScope N_is_maker ps_is_maker (defScope s_is_maker) := ⟨rfl, rfl, rfl, by decide +kernel, rfl, by decide +kernel, by decide +kernel⟩
abbrev s_is_name : Stmt := topS 17
abbrev N_is_name : List Str := ["value"]
abbrev ps_is_name : List Str := ["value"]
theorem sc_is_name : FnScope N_is_name ps_is_name (defScope s_is_name) := ⟨rfl, rfl, rfl, by decide +kernel, rfl, by decide +kernel, by decide +kernel⟩
abbrev s_is_integer : Stmt := topS 19
abbrev N_is_integer : List Str := ["value"]
abbrev ps_is_integer : List Str := ["value"]
theorem sc_is_integer : FnScope N_is_integer ps_is_integer (defScope s_is_integer) := ⟨rfl, rfl, rfl, by decide +kernel, rfl, by decide +kernel, by decide +kernel⟩
abbrev s_check_number : Stmt := topS 20
abbrev N_check_number : List Str := ["value", "why", "high"]
abbrev ps_check_number : List Str := ["value", "why", "high"]
theorem sc_check_number : FnScope N_check_number ps_check_number (defScope s_check_number) := ⟨rfl, rfl, rfl, by decide +kernel, rfl, by decide +kernel, by decide +kernel⟩
abbrev s_check_key : Stmt := topS 22
abbrev N_check_key : List Str := ["key"]
abbrev ps_check_key : List Str := ["key"]
theorem sc_check_key : FnScope N_check_key ps_check_key (defScope s_check_key) := ⟨rfl, rfl, rfl, by decide +kernel, rfl, by decide +kernel, by decide +kernel⟩
abbrev s__law_cell_at : Stmt := topS 27
abbrev N__law_cell_at : List Str := ["_law_script", "_law_index"]
abbrev ps__law_cell_at : List Str := ["_law_script", "_law_index"]
theorem sc__law_cell_at : FnScope N__law_cell_at ps__law_cell_at (defScope s__law_cell_at) := ⟨rfl, rfl, rfl, by decide +kernel, rfl, by decide +kernel, by decide +kernel⟩
abbrev s__law_well : Stmt := topS 28
abbrev N__law_well : List Str := ["_law_cell"]
abbrev ps__law_well : List Str := ["_law_cell"]
theorem sc__law_well : FnScope N__law_well ps__law_well (defScope s__law_well) := ⟨rfl, rfl, rfl, by decide +kernel, rfl, by decide +kernel, by decide +kernel⟩
abbrev s__law_draw : Stmt := topS 29
abbrev N__law_draw : List Str := ["_law_well_here", "_law_many", "_law_found", "_law_salt", "_law_base", "_law_number"]
abbrev ps__law_draw : List Str := ["_law_well_here", "_law_many"]
theorem sc__law_draw : FnScope N__law_draw ps__law_draw (defScope s__law_draw) := ⟨rfl, rfl, rfl, by decide +kernel, rfl, by decide +kernel, by decide +kernel⟩
abbrev s__law_one : Stmt := topS 30
abbrev N__law_one : List Str := ["_law_well_here", "_law_some"]
abbrev ps__law_one : List Str := ["_law_well_here", "_law_some"]
theorem sc__law_one : FnScope N__law_one ps__law_one (defScope s__law_one) := ⟨rfl, rfl, rfl, by decide +kernel, rfl, by decide +kernel, by decide +kernel⟩
abbrev s__law_open : Stmt := topS 31
abbrev N__law_open : List Str := ["_law_wishes", "_law_busy", "_law_clock", "_law_found", "_law_spot", "_law_moment"]
abbrev ps__law_open : List Str := ["_law_wishes", "_law_busy", "_law_clock"]
theorem sc__law_open : FnScope N__law_open ps__law_open (defScope s__law_open) := ⟨rfl, rfl, rfl, by decide +kernel, rfl, by decide +kernel, by decide +kernel⟩
abbrev s__law_took : Stmt := topS 32
abbrev N__law_took : List Str := ["_law_queue", "_law_m", "_law_clock", "_law_found", "_law_spot", "_law_row"]
abbrev ps__law_took : List Str := ["_law_queue", "_law_m", "_law_clock"]
theorem sc__law_took : FnScope N__law_took ps__law_took (defScope s__law_took) := ⟨rfl, rfl, rfl, by decide +kernel, rfl, by decide +kernel, by decide +kernel⟩
abbrev s__law_over : Stmt := topS 33
abbrev N__law_over : List Str := ["_law_well_here", "_law_queue", "_law_m", "_law_clock", "_law_spot"]
abbrev ps__law_over : List Str := ["_law_well_here", "_law_queue", "_law_m", "_law_clock"]
theorem sc__law_over : FnScope N__law_over ps__law_over (defScope s__law_over) := ⟨rfl, rfl, rfl, by decide +kernel, rfl, by decide +kernel, by decide +kernel⟩
abbrev s__law_worked_off : Stmt := topS 34
abbrev N__law_worked_off : List Str := ["_law_queue", "_law_m", "_law_clock", "_law_spot", "_law_due", "_law_found", "_law_turn", "_law_moment"]
abbrev ps__law_worked_off : List Str := ["_law_queue", "_law_m", "_law_clock"]
theorem sc__law_worked_off : FnScope N__law_worked_off ps__law_worked_off (defScope s__law_worked_off) := ⟨rfl, rfl, rfl, by decide +kernel, rfl, by decide +kernel, by decide +kernel⟩
abbrev s_law : Stmt := topS 35
abbrev N_law : List Str := ["_law_script", "_law_cell", "_law_well_here", "_law_queue", "_law_clock", "_law_keys", "_law_m", "_law_turn", "_law_deed", "_law_spot", "_law_moment", "_law_k"]
abbrev ps_law : List Str := ["_law_script"]
theorem sc_law : FnScope N_law ps_law (defScope s_law) := ⟨rfl, rfl, rfl, by decide +kernel, rfl, by decide +kernel, by decide +kernel⟩
abbrev s_Queue___init__ : Stmt := inClass (topS 25) 0
abbrev N_Queue___init__ : List Str := ["self", "most"]
abbrev ps_Queue___init__ : List Str := ["self", "most"]
theorem sc_Queue___init__ : FnScope N_Queue___init__ ps_Queue___init__ (defScope s_Queue___init__) := ⟨rfl, rfl, rfl, by decide +kernel, rfl, by decide +kernel, by decide +kernel⟩
abbrev s_Queue_put : Stmt := inClass (topS 25) 1
abbrev N_Queue_put : List Str := ["self", "key", "time"]
abbrev ps_Queue_put : List Str := ["self", "key", "time"]
theorem sc_Queue_put : FnScope N_Queue_put ps_Queue_put (defScope s_Queue_put) := ⟨rfl, rfl, rfl, by decide +kernel, rfl, by decide +kernel, by decide +kernel⟩
abbrev s_Queue_add : Stmt := inClass (topS 25) 2
abbrev N_Queue_add : List Str := ["self", "key", "time", "known"]
abbrev ps_Queue_add : List Str := ["self", "key", "time"]
theorem sc_Queue_add : FnScope N_Queue_add ps_Queue_add (defScope s_Queue_add) := ⟨rfl, rfl, rfl, by decide +kernel, rfl, by decide +kernel, by decide +kernel⟩
abbrev s_Queue_take : Stmt := inClass (topS 25) 3
abbrev N_Queue_take : List Str := ["self", "clock", "due", "key", "entry"]
abbrev ps_Queue_take : List Str := ["self", "clock"]
theorem sc_Queue_take : FnScope N_Queue_take ps_Queue_take (defScope s_Queue_take) := ⟨rfl, rfl, rfl, by decide +kernel, rfl, by decide +kernel, by decide +kernel⟩
abbrev s_Queue_check_taken : Stmt := inClass (topS 25) 4
abbrev N_Queue_check_taken : List Str := ["self", "key"]
abbrev ps_Queue_check_taken : List Str := ["self", "key"]
theorem sc_Queue_check_taken : FnScope N_Queue_check_taken ps_Queue_check_taken (defScope s_Queue_check_taken) := ⟨rfl, rfl, rfl, by decide +kernel, rfl, by decide +kernel, by decide +kernel⟩
abbrev s_Queue_done : Stmt := inClass (topS 25) 5
abbrev N_Queue_done : List Str := ["self", "key", "time"]
abbrev ps_Queue_done : List Str := ["self", "key"]
theorem sc_Queue_done : FnScope N_Queue_done ps_Queue_done (defScope s_Queue_done) := ⟨rfl, rfl, rfl, by decide +kernel, rfl, by decide +kernel, by decide +kernel⟩
abbrev s_Queue_retry : Stmt := inClass (topS 25) 6
abbrev N_Queue_retry : List Str := ["self", "key", "clock"]
abbrev ps_Queue_retry : List Str := ["self", "key", "clock"]
theorem sc_Queue_retry : FnScope N_Queue_retry ps_Queue_retry (defScope s_Queue_retry) := ⟨rfl, rfl, rfl, by decide +kernel, rfl, by decide +kernel, by decide +kernel⟩
abbrev s_Queue_forget : Stmt := inClass (topS 25) 7
abbrev N_Queue_forget : List Str := ["self", "key"]
abbrev ps_Queue_forget : List Str := ["self", "key"]
theorem sc_Queue_forget : FnScope N_Queue_forget ps_Queue_forget (defScope s_Queue_forget) := ⟨rfl, rfl, rfl, by decide +kernel, rfl, by decide +kernel, by decide +kernel⟩
abbrev s_Queue_delay : Stmt := inClass (topS 25) 8
abbrev N_Queue_delay : List Str := ["self", "key"]
abbrev ps_Queue_delay : List Str := ["self", "key"]
theorem sc_Queue_delay : FnScope N_Queue_delay ps_Queue_delay (defScope s_Queue_delay) := ⟨rfl, rfl, rfl, by decide +kernel, rfl, by decide +kernel, by decide +kernel⟩
abbrev s_Queue_waiting : Stmt := inClass (topS 25) 9
abbrev N_Queue_waiting : List Str := ["self", "rows", "key", "entry"]
abbrev ps_Queue_waiting : List Str := ["self"]
theorem sc_Queue_waiting : FnScope N_Queue_waiting ps_Queue_waiting (defScope s_Queue_waiting) := ⟨rfl, rfl, rfl, by decide +kernel, rfl, by decide +kernel, by decide +kernel⟩
abbrev s_Queue_working : Stmt := inClass (topS 25) 10
abbrev N_Queue_working : List Str := ["self"]
abbrev ps_Queue_working : List Str := ["self"]
theorem sc_Queue_working : FnScope N_Queue_working ps_Queue_working (defScope s_Queue_working) := ⟨rfl, rfl, rfl, by decide +kernel, rfl, by decide +kernel, by decide +kernel⟩
abbrev s_Queue_next_time : Stmt := inClass (topS 25) 11
abbrev N_Queue_next_time : List Str := ["self"]
abbrev ps_Queue_next_time : List Str := ["self"]
theorem sc_Queue_next_time : FnScope N_Queue_next_time ps_Queue_next_time (defScope s_Queue_next_time) := ⟨rfl, rfl, rfl, by decide +kernel, rfl, by decide +kernel, by decide +kernel⟩
abbrev FnP (K : PySem.W.Frag) (x : Str) (st : Stmt) (dvs : List V) (fd : FuncData) : Prop := FunD K x x (defArgs st) (defBody st) (defScope st) dvs [] (He.ga K x) fd
/-! ### a hook that looks at the statics too -/
abbrev asY (g : Addr → Option Obj) : List Addr := cStatics :: He.asD g 6
def obsY (fa : List He.Fa) (fn : List He.DefD) (ts : List He.Tab) (tf : List He.Defn) (ex : PySem.W.Frag → Bool) (g : Addr → Option Obj) : He.AlX :=
  (He.obsT fa fn ts (He.frT g (asY g)), ex (He.frT g (asY g)) && He.tabsB g tf (He.frT g (asY g)))
theorem saysY {fa : List He.Fa} {fn : List He.DefD} {ts : List He.Tab} {tf : List He.Defn} {ex : PySem.W.Frag → Bool} {w : World} {h : Heap} (e : obsY fa fn ts tf ex h.get? = He.valX fn ts w) : He.SaysX fa fn ts tf ex w h (He.frT h.get? (asY h.get?)) := by
  have both : (ex (He.frT h.get? (asY h.get?)) && He.tabsB h.get? tf (He.frT h.get? (asY h.get?))) = true := congrArg (fun z : He.AlX => z.2) e
  obtain ⟨hx, ht⟩ := Bool.and_eq_true_iff.mp both
  have one : ∀ p ∈ tf, PySem.W.codeHdIn (He.frT h.get? (asY h.get?)) (He.cT (He.frT h.get? (asY h.get?)) p).1 (He.cT (He.frT h.get? (asY h.get?)) p).2 = true ∧ ∃ o, h.get? (He.cT (He.frT h.get? (asY h.get?)) p).2 = some o ∧ He.emptyTab o = true := by
    intro p hp
    obtain ⟨a1, a2⟩ := Bool.and_eq_true_iff.mp (List.all_eq_true.mp ht p hp)
    refine ⟨a1, ?_⟩
    split at a2
    · rename_i o q
      exact ⟨o, q, a2⟩
    · cases a2
  refine ⟨congrArg (fun z : He.AlX => z.1) e, hx, fun p hp => (one p hp).1, ?_, ?_⟩
  · intro p hp
    obtain ⟨_, o, q, z⟩ := one p hp
    exact He.frT_none (o := o) q z
  · intro p hp
    obtain ⟨_, o, q, z⟩ := one p hp
    exact q.trans (congrArg some (He.emptyTab_eq z))
def hookY (fa : List He.Fa) (fn : List He.DefD) (ts : List He.Tab) (tf : List He.Defn) (ex : PySem.W.Frag → Bool) : PySem.W.Hook :=
  { α := He.AlX, obs := fun s => obsY fa fn ts tf ex s.heap.get?, val := fun w => He.valX fn ts w, says := fun w h => ∃ K : PySem.W.Frag, K.In h ∧ He.SaysX fa fn ts tf ex w h K,
    of := fun _ _ e => ⟨_, He.frT_in, saysY e⟩,
    keeps := fun _ _ _ hk k => hk.elim fun K hc => ⟨K, PySem.W.Frag.In.keeps hc.1 k, ⟨hc.2.t, hc.2.more, hc.2.hd, hc.2.out, fun p hp => k _ _ (hc.2.empty p hp)⟩⟩ }
theorem obsY_eq {fa : List He.Fa} {fn : List He.DefD} {ts : List He.Tab} {tf : List He.Defn} {ex : PySem.W.Frag → Bool} {g : Addr → Option Obj} {s : Shared} (h : ∀ a, g a = s.heap.get? a) : obsY fa fn ts tf ex g = (hookY fa fn ts tf ex).obs s := by
  rw [show g = s.heap.get? from funext h]
  rfl
/-! the class at C is an own exception class over ValueError: field by field, each field by a look of its own -/
def lookCls (o : Obj) : Option ClassData := match o.data with | .cls cd => some cd | _ => none
def lookTail (C : Addr) : List Value → Option (List Value)
  | .ref b :: bm => if b = C then some bm else none
  | _ => none
abbrev Slot5 : Type := Option Value × Option Value × Option Value × Option Value × Option Value
def lookSlots (l : List (Option Value)) : Option Slot5 := match l with
  | [k0, k1, k2, k3, some (.builtin n), k5] => if n = "ValueError.__new__" then some (k0, k1, k2, k3, k5) else none
  | _ => none
theorem lookCls_of {o : Obj} {cd : ClassData} (h : lookCls o = some cd) : o.data = .cls cd := by
  unfold lookCls at h; split at h <;> first | (cases h; assumption) | cases h
theorem lookTail_of {C : Addr} : ∀ {l bm : List Value}, lookTail C l = some bm → l = .ref C :: bm := by
  intro l bm h; unfold lookTail at h; split at h
  · split at h <;> first | (subst_vars; cases h; rfl) | cases h
  · cases h
theorem lookSlots_of {l : List (Option Value)} {k : Slot5} (h : lookSlots l = some k) : l = [k.1, k.2.1, k.2.2.1, k.2.2.2.1, some (.builtin "ValueError.__new__"), k.2.2.2.2] := by
  unfold lookSlots at h; split at h
  · split at h <;> first | (subst_vars; cases h; rfl) | cases h
  · cases h
def oexAt (C : Addr) (o : Obj) : Bool := match lookCls o, lookSlots o.slots.toList with
  | some cd, some _ => (match lookTail C cd.mro with | some bm => PySem.HandSPX.refsVE bm | none => false) && (cd.hasDict && (!cd.hasDel && decide (o.cls = .type "type")))
  | _, _ => false
def oexB (K : PySem.W.Frag) (C : Addr) : Bool := (match K.lookup C with | some o => oexAt C o | none => false) && (decide (PySem.W.findIn K (.ref C) "__setattr__" = some (some (.builtin "object.__setattr__"))) && (decide (PySem.W.subIn K (.ref C) (.type "BaseException") = some true) && (decide (PySem.W.typeIn K (.ref C) = some (.type "type")) && PySem.W.keepIn K (.ref C))))
/-- the parts put together again -/
theorem oexAt_of {C : Addr} {o : Obj} (h : oexAt C o = true) : ∃ nm q N bs bm sn sub ab col dd k0 k1 k2 k3 k5, o = excClassObj nm q C N bs bm true sn sub ab col dd k0 k1 k2 k3 k5 "ValueError.__new__" ∧ PySem.HandSPX.refsVE bm = true := by
  unfold oexAt at h
  cases e1 : lookCls o with
  | none => rw [e1] at h; exact Bool.noConfusion h
  | some cd =>
    cases e2 : lookSlots o.slots.toList with
    | none => rw [e1, e2] at h; exact Bool.noConfusion h
    | some k =>
      rw [e1, e2] at h
      have ⟨tail, h⟩ := Bool.and_eq_true_iff.mp h
      have ⟨hasD, h⟩ := Bool.and_eq_true_iff.mp h
      have ⟨noDel, ty⟩ := Bool.and_eq_true_iff.mp h
      cases e3 : lookTail C cd.mro with
      | none => rw [e3] at tail; exact Bool.noConfusion tail
      | some bm =>
        rw [e3] at tail
        have data := lookCls_of e1
        have slots := lookSlots_of e2
        have mro := lookTail_of e3
        have tyE := of_decide_eq_true ty
        clear ty
        have dele : cd.hasDel = false := (Bool.not_eq_true' _).mp noDel
        clear noDel e1 e2 e3 h
        refine ⟨cd.name, cd.qualname, cd.ns, cd.bases, bm, cd.slotNames, cd.subclasses, cd.abstract, cd.collection, o.dict, k.1, k.2.1, k.2.2.1, k.2.2.2.1, k.2.2.2.2, ?_, tail⟩
        obtain ⟨ocls, odict, odata, ⟨osl⟩⟩ := o
        obtain ⟨nm, bs, mr, nsp, qn, hd, sn, sub, ab, col, del⟩ := cd
        dsimp only at data slots mro tyE dele hasD ⊢
        subst data slots mro tyE dele hasD
        rfl
theorem oexB_ok {K : PySem.W.Frag} {C : Addr} (h : oexB K C = true) : OexC K C := by
  unfold oexB at h
  have ⟨at_, h⟩ := Bool.and_eq_true_iff.mp h
  have ⟨sa, h⟩ := Bool.and_eq_true_iff.mp h
  have ⟨exC, h⟩ := Bool.and_eq_true_iff.mp h
  have ⟨tyC, kC⟩ := Bool.and_eq_true_iff.mp h
  cases look : K.lookup C with
  | none => rw [look] at at_; exact Bool.noConfusion at_
  | some o =>
    rw [look] at at_
    have ⟨nm, q, N, bs, bm, sn, sub, ab, col, dd, k0, k1, k2, k3, k5, e, ve⟩ := oexAt_of at_
    exact ⟨⟨nm, q, N, bs, bm, sn, sub, ab, col, dd, k0, k1, k2, k3, k5, e ▸ look, ve⟩, of_decide_eq_true sa, of_decide_eq_true exC, of_decide_eq_true tyC, kC⟩
/-- what isinstance and the fields of a caught error ask of its class -/
def excB (K : PySem.W.Frag) (C : Addr) : Bool := (PySem.W.clsIn K C).isSome && (xfB K C && (decide (PySem.W.findIn K (.ref C) "__class__" = some (some (.builtin "object.__class__"))) &&
  (decide (PySem.W.specialIn K (.builtin "object.__class__") "__get__" = some (some (.builtin "getset_descriptor.__get__"))) && (decide (PySem.W.takesIn K (.builtin "object.__class__") = some true) && decide (PySem.W.mroIn K C (.type "object") = some true)))))
def veiB (K : PySem.W.Frag) : Bool := match PySem.W.findCls K (.type "ValueError") (.type "type") "__init__" with
  | some (.val (.builtin x)) => decide (x = "ValueError.__init__")
  | _ => false
theorem veiB_ok {K : PySem.W.Frag} (h : veiB K = true) : PySem.W.findCls K (.type "ValueError") (.type "type") "__init__" = some (.val (.builtin "ValueError.__init__")) := by
  unfold veiB at h
  split at h
  · rename_i x e
    rw [e, of_decide_eq_true h]
  · cases h
def cfB (K : PySem.W.Frag) (C f : Addr) : Bool := match PySem.W.findCls K (.ref C) (.type "type") "__init__" with
  | some (.val (.ref x)) => decide (x = f)
  | _ => false
theorem cfB_ok {K : PySem.W.Frag} {C f : Addr} (h : cfB K C f = true) : PySem.W.findCls K (.ref C) (.type "type") "__init__" = some (.val (.ref f)) := by
  unfold cfB at h
  split at h
  · rename_i x e
    rw [e, of_decide_eq_true h]
  · cases h
def exL (K : PySem.W.Frag) : List Bool := [veiB K,
  He.valsB K (He.ga K "HIGHEST") [("s", .int 99), ("j", .int 99), ("r", .int 999999)]]
def exB (K : PySem.W.Frag) : Bool := (exL K).all id
theorem exAt {K : PySem.W.Frag} (h : exB K = true) (i : Nat) {b : Bool} (e : (exL K)[i]? = some b) : b = true := List.all_eq_true.mp h b (List.mem_of_getElem? e)
structure ExT (K : PySem.W.Frag) : Prop where
  vei : PySem.W.findCls K (.type "ValueError") (.type "type") "__init__" = some (.val (.builtin "ValueError.__init__"))
  val_HIGHEST : He.valsB K (He.ga K "HIGHEST") [("s", .int 99), ("j", .int 99), ("r", .int 999999)] = true
theorem exT {K : PySem.W.Frag} (h : exB K = true) : ExT K := ⟨veiB_ok (exAt h 0 rfl),
  id (exAt h 1 rfl)⟩
structure Txt (K : PySem.W.Frag) (mg : Str → Option Value) (w : World) : Prop where
  g__wall : mg "_wall" = some (.ref (He.ga K "_wall"))
  d__wall : ∃ fd, FnP K "_wall" s__wall [] fd
  g_is_user_name : mg "is_user_name" = some (.ref (He.ga K "is_user_name"))
  d_is_user_name : ∃ fd, FnP K "is_user_name" s_is_user_name [] fd
  g_number_of : mg "number_of" = some (.ref (He.ga K "number_of"))
  d_number_of : ∃ fd, FnP K "number_of" s_number_of [] fd
  g_part_of : mg "part_of" = some (.ref (He.ga K "part_of"))
  d_part_of : ∃ fd, FnP K "part_of" s_part_of [] fd
  g_apart : mg "apart" = some (.ref (He.ga K "apart"))
  d_apart : ∃ fd, FnP K "apart" s_apart [] fd
  g_is_maker : mg "is_maker" = some (.ref (He.ga K "is_maker"))
  d_is_maker : ∃ fd, FnP K "is_maker" s_is_maker [] fd
  g_is_name : mg "is_name" = some (.ref (He.ga K "is_name"))
  d_is_name : ∃ fd, FnP K "is_name" s_is_name [] fd
  g_is_integer : mg "is_integer" = some (.ref (He.ga K "is_integer"))
  d_is_integer : ∃ fd, FnP K "is_integer" s_is_integer [] fd
  g_check_number : mg "check_number" = some (.ref (He.ga K "check_number"))
  d_check_number : ∃ fd, FnP K "check_number" s_check_number [.non] fd
  g_check_key : mg "check_key" = some (.ref (He.ga K "check_key"))
  d_check_key : ∃ fd, FnP K "check_key" s_check_key [] fd
  g__law_cell_at : mg "_law_cell_at" = some (.ref (He.ga K "_law_cell_at"))
  d__law_cell_at : ∃ fd, FnP K "_law_cell_at" s__law_cell_at [] fd
  g__law_well : mg "_law_well" = some (.ref (He.ga K "_law_well"))
  d__law_well : ∃ fd, FnP K "_law_well" s__law_well [] fd
  g__law_draw : mg "_law_draw" = some (.ref (He.ga K "_law_draw"))
  d__law_draw : ∃ fd, FnP K "_law_draw" s__law_draw [] fd
  g__law_one : mg "_law_one" = some (.ref (He.ga K "_law_one"))
  d__law_one : ∃ fd, FnP K "_law_one" s__law_one [] fd
  g__law_open : mg "_law_open" = some (.ref (He.ga K "_law_open"))
  d__law_open : ∃ fd, FnP K "_law_open" s__law_open [] fd
  g__law_took : mg "_law_took" = some (.ref (He.ga K "_law_took"))
  d__law_took : ∃ fd, FnP K "_law_took" s__law_took [] fd
  g__law_over : mg "_law_over" = some (.ref (He.ga K "_law_over"))
  d__law_over : ∃ fd, FnP K "_law_over" s__law_over [] fd
  g__law_worked_off : mg "_law_worked_off" = some (.ref (He.ga K "_law_worked_off"))
  d__law_worked_off : ∃ fd, FnP K "_law_worked_off" s__law_worked_off [] fd
  g_law : mg "law" = some (.ref (He.ga K "law"))
  d_law : ∃ fd, FnP K "law" s_law [] fd
  d_Queue___init__ : ∃ fd, FunD K "__init__" "Queue.__init__" (defArgs s_Queue___init__) (defBody s_Queue___init__) (defScope s_Queue___init__) [] [("most", .int 1)] (He.fAd K ("Queue", some "__init__")) fd
  d_Queue_put : ∃ fd, FunD K "put" "Queue.put" (defArgs s_Queue_put) (defBody s_Queue_put) (defScope s_Queue_put) [] [] (He.fAd K ("Queue", some "put")) fd
  d_Queue_add : ∃ fd, FunD K "add" "Queue.add" (defArgs s_Queue_add) (defBody s_Queue_add) (defScope s_Queue_add) [] [] (He.fAd K ("Queue", some "add")) fd
  d_Queue_take : ∃ fd, FunD K "take" "Queue.take" (defArgs s_Queue_take) (defBody s_Queue_take) (defScope s_Queue_take) [] [] (He.fAd K ("Queue", some "take")) fd
  d_Queue_check_taken : ∃ fd, FunD K "check_taken" "Queue.check_taken" (defArgs s_Queue_check_taken) (defBody s_Queue_check_taken) (defScope s_Queue_check_taken) [] [] (He.fAd K ("Queue", some "check_taken")) fd
  d_Queue_done : ∃ fd, FunD K "done" "Queue.done" (defArgs s_Queue_done) (defBody s_Queue_done) (defScope s_Queue_done) [] [] (He.fAd K ("Queue", some "done")) fd
  d_Queue_retry : ∃ fd, FunD K "retry" "Queue.retry" (defArgs s_Queue_retry) (defBody s_Queue_retry) (defScope s_Queue_retry) [] [] (He.fAd K ("Queue", some "retry")) fd
  d_Queue_forget : ∃ fd, FunD K "forget" "Queue.forget" (defArgs s_Queue_forget) (defBody s_Queue_forget) (defScope s_Queue_forget) [] [] (He.fAd K ("Queue", some "forget")) fd
  d_Queue_delay : ∃ fd, FunD K "delay" "Queue.delay" (defArgs s_Queue_delay) (defBody s_Queue_delay) (defScope s_Queue_delay) [] [] (He.fAd K ("Queue", some "delay")) fd
  d_Queue_waiting : ∃ fd, FunD K "waiting" "Queue.waiting" (defArgs s_Queue_waiting) (defBody s_Queue_waiting) (defScope s_Queue_waiting) [] [] (He.fAd K ("Queue", some "waiting")) fd
  d_Queue_working : ∃ fd, FunD K "working" "Queue.working" (defArgs s_Queue_working) (defBody s_Queue_working) (defScope s_Queue_working) [] [] (He.fAd K ("Queue", some "working")) fd
  d_Queue_next_time : ∃ fd, FunD K "next_time" "Queue.next_time" (defArgs s_Queue_next_time) (defBody s_Queue_next_time) (defScope s_Queue_next_time) [] [] (He.fAd K ("Queue", some "next_time")) fd
  g_PlaneError : mg "PlaneError" = some (.ref (He.ga K "PlaneError"))
  g_BadKey : mg "BadKey" = some (.ref (He.ga K "BadKey"))
  g_BadValue : mg "BadValue" = some (.ref (He.ga K "BadValue"))
  g_NotTaken : mg "NotTaken" = some (.ref (He.ga K "NotTaken"))
  g_Queue : mg "Queue" = some (.ref (He.ga K "Queue"))
  n_len : mg "len" = none
  n_int : mg "int" = none
  n_bool : mg "bool" = none
  n_str : mg "str" = none
  n_list : mg "list" = none
  n_tuple : mg "tuple" = none
  n_set : mg "set" = none
  n_range : mg "range" = none
  n_isinstance : mg "isinstance" = none
  n_max : mg "max" = none
  n_min : mg "min" = none
  n_all : mg "all" = none
  n_sorted : mg "sorted" = none
  n_ValueError : mg "ValueError" = none
  c_SMALL : ∃ t, mg "SMALL" = some (.str "abcdefghijklmnopqrstuvwxyz" t)
  c_DIGITS : ∃ t, mg "DIGITS" = some (.str "0123456789" t)
  c_MOST_SIGNS : ∃ t, mg "MOST_SIGNS" = some (.int 10 t)
  c_MOST_MADE : ∃ t, mg "MOST_MADE" = some (.int 22 t)
  c_MOST_DELAY : ∃ t, mg "MOST_DELAY" = some (.int 1000 t)
  g_HIGHEST : mg "HIGHEST" = some (.ref (He.ga K "HIGHEST"))
  cl_Queue : Cls K (He.ga K "Queue")
  mk_Queue : Mk K (He.ga K "Queue") (He.fAd K ("Queue", some "__init__"))
  no_Queue_longest : NoAttr K (He.ga K "Queue") "longest"
  no_Queue_entries : NoAttr K (He.ga K "Queue") "entries"
  no_Queue_taken : NoAttr K (He.ga K "Queue") "taken"
  no_Queue_delays : NoAttr K (He.ga K "Queue") "delays"
  no_Queue_count : NoAttr K (He.ga K "Queue") "count"
  m_Queue_put : Meth K (He.ga K "Queue") "put" (He.fAd K ("Queue", some "put"))
  m_Queue_add : Meth K (He.ga K "Queue") "add" (He.fAd K ("Queue", some "add"))
  m_Queue_take : Meth K (He.ga K "Queue") "take" (He.fAd K ("Queue", some "take"))
  m_Queue_check_taken : Meth K (He.ga K "Queue") "check_taken" (He.fAd K ("Queue", some "check_taken"))
  m_Queue_done : Meth K (He.ga K "Queue") "done" (He.fAd K ("Queue", some "done"))
  m_Queue_retry : Meth K (He.ga K "Queue") "retry" (He.fAd K ("Queue", some "retry"))
  m_Queue_forget : Meth K (He.ga K "Queue") "forget" (He.fAd K ("Queue", some "forget"))
  m_Queue_delay : Meth K (He.ga K "Queue") "delay" (He.fAd K ("Queue", some "delay"))
  m_Queue_waiting : Meth K (He.ga K "Queue") "waiting" (He.fAd K ("Queue", some "waiting"))
  m_Queue_working : Meth K (He.ga K "Queue") "working" (He.fAd K ("Queue", some "working"))
  m_Queue_next_time : Meth K (He.ga K "Queue") "next_time" (He.fAd K ("Queue", some "next_time"))
  ex : exB K = true
  kd_HIGHEST : ∃ es n, KDict K w (He.ga K "HIGHEST") es n
theorem bi__wall {K : PySem.W.Frag} {fd : FuncData} (F : FnP K "_wall" s__wall [] fd) : Binds K fd ps__wall [] := F.bindsN (fun _ _ _ _ _ _ us hl => match us, hl with | [_], _ => rfl)
theorem bi_is_user_name {K : PySem.W.Frag} {fd : FuncData} (F : FnP K "is_user_name" s_is_user_name [] fd) : Binds K fd ps_is_user_name [] := F.bindsN (fun _ _ _ _ _ _ us hl => match us, hl with | [_], _ => rfl)
theorem bi_number_of {K : PySem.W.Frag} {fd : FuncData} (F : FnP K "number_of" s_number_of [] fd) : Binds K fd ps_number_of [] := F.bindsN (fun _ _ _ _ _ _ us hl => match us, hl with | [_, _], _ => rfl)
theorem bi_part_of {K : PySem.W.Frag} {fd : FuncData} (F : FnP K "part_of" s_part_of [] fd) : Binds K fd ps_part_of [] := F.bindsN (fun _ _ _ _ _ _ us hl => match us, hl with | [_, _], _ => rfl)
theorem bi_apart {K : PySem.W.Frag} {fd : FuncData} (F : FnP K "apart" s_apart [] fd) : Binds K fd ps_apart [] := F.bindsN (fun _ _ _ _ _ _ us hl => match us, hl with | [_], _ => rfl)
theorem bi_is_maker {K : PySem.W.Frag} {fd : FuncData} (F : FnP K "is_maker" s_is_maker [] fd) : Binds K fd ps_is_maker [] := F.bindsN (fun _ _ _ _ _ _ us hl => match us, hl with | [_, _], _ => rfl)
theorem bi_is_name {K : PySem.W.Frag} {fd : FuncData} (F : FnP K "is_name" s_is_name [] fd) : Binds K fd ps_is_name [] := F.bindsN (fun _ _ _ _ _ _ us hl => match us, hl with | [_], _ => rfl)
theorem bi_is_integer {K : PySem.W.Frag} {fd : FuncData} (F : FnP K "is_integer" s_is_integer [] fd) : Binds K fd ps_is_integer [] := F.bindsN (fun _ _ _ _ _ _ us hl => match us, hl with | [_], _ => rfl)
theorem bi_check_number {K : PySem.W.Frag} {fd : FuncData} (F : FnP K "check_number" s_check_number [.non] fd) : ∃ ds, Vals ([.non] : List V) ds ∧ Binds K fd ps_check_number ds := FunD.binds1 F 2 0 (by simp) (by rfl) fun _ _ _ _ _ _ _ us its h1 h2 => match us, its, h1, h2 with | [_, _], [_], _, _ => ⟨_, rfl, rfl⟩
theorem bi_check_key {K : PySem.W.Frag} {fd : FuncData} (F : FnP K "check_key" s_check_key [] fd) : Binds K fd ps_check_key [] := F.bindsN (fun _ _ _ _ _ _ us hl => match us, hl with | [_], _ => rfl)
theorem bi__law_cell_at {K : PySem.W.Frag} {fd : FuncData} (F : FnP K "_law_cell_at" s__law_cell_at [] fd) : Binds K fd ps__law_cell_at [] := F.bindsN (fun _ _ _ _ _ _ us hl => match us, hl with | [_, _], _ => rfl)
theorem bi__law_well {K : PySem.W.Frag} {fd : FuncData} (F : FnP K "_law_well" s__law_well [] fd) : Binds K fd ps__law_well [] := F.bindsN (fun _ _ _ _ _ _ us hl => match us, hl with | [_], _ => rfl)
theorem bi__law_draw {K : PySem.W.Frag} {fd : FuncData} (F : FnP K "_law_draw" s__law_draw [] fd) : Binds K fd ps__law_draw [] := F.bindsN (fun _ _ _ _ _ _ us hl => match us, hl with | [_, _], _ => rfl)
theorem bi__law_one {K : PySem.W.Frag} {fd : FuncData} (F : FnP K "_law_one" s__law_one [] fd) : Binds K fd ps__law_one [] := F.bindsN (fun _ _ _ _ _ _ us hl => match us, hl with | [_, _], _ => rfl)
theorem bi__law_open {K : PySem.W.Frag} {fd : FuncData} (F : FnP K "_law_open" s__law_open [] fd) : Binds K fd ps__law_open [] := F.bindsN (fun _ _ _ _ _ _ us hl => match us, hl with | [_, _, _], _ => rfl)
theorem bi__law_took {K : PySem.W.Frag} {fd : FuncData} (F : FnP K "_law_took" s__law_took [] fd) : Binds K fd ps__law_took [] := F.bindsN (fun _ _ _ _ _ _ us hl => match us, hl with | [_, _, _], _ => rfl)
theorem bi__law_over {K : PySem.W.Frag} {fd : FuncData} (F : FnP K "_law_over" s__law_over [] fd) : Binds K fd ps__law_over [] := F.bindsN (fun _ _ _ _ _ _ us hl => match us, hl with | [_, _, _, _], _ => rfl)
theorem bi__law_worked_off {K : PySem.W.Frag} {fd : FuncData} (F : FnP K "_law_worked_off" s__law_worked_off [] fd) : Binds K fd ps__law_worked_off [] := F.bindsN (fun _ _ _ _ _ _ us hl => match us, hl with | [_, _, _], _ => rfl)
theorem bi_law {K : PySem.W.Frag} {fd : FuncData} (F : FnP K "law" s_law [] fd) : Binds K fd ps_law [] := F.bindsN (fun _ _ _ _ _ _ us hl => match us, hl with | [_], _ => rfl)
theorem bi_Queue_put {K : PySem.W.Frag} {fd : FuncData} (F : FunD K "put" "Queue.put" (defArgs s_Queue_put) (defBody s_Queue_put) (defScope s_Queue_put) [] [] (He.fAd K ("Queue", some "put")) fd) : Binds K fd ps_Queue_put [] := F.bindsN (fun _ _ _ _ _ _ us hl => match us, hl with | [_, _, _], _ => rfl)
theorem bi_Queue_add {K : PySem.W.Frag} {fd : FuncData} (F : FunD K "add" "Queue.add" (defArgs s_Queue_add) (defBody s_Queue_add) (defScope s_Queue_add) [] [] (He.fAd K ("Queue", some "add")) fd) : Binds K fd ps_Queue_add [] := F.bindsN (fun _ _ _ _ _ _ us hl => match us, hl with | [_, _, _], _ => rfl)
theorem bi_Queue_take {K : PySem.W.Frag} {fd : FuncData} (F : FunD K "take" "Queue.take" (defArgs s_Queue_take) (defBody s_Queue_take) (defScope s_Queue_take) [] [] (He.fAd K ("Queue", some "take")) fd) : Binds K fd ps_Queue_take [] := F.bindsN (fun _ _ _ _ _ _ us hl => match us, hl with | [_, _], _ => rfl)
theorem bi_Queue_check_taken {K : PySem.W.Frag} {fd : FuncData} (F : FunD K "check_taken" "Queue.check_taken" (defArgs s_Queue_check_taken) (defBody s_Queue_check_taken) (defScope s_Queue_check_taken) [] [] (He.fAd K ("Queue", some "check_taken")) fd) : Binds K fd ps_Queue_check_taken [] := F.bindsN (fun _ _ _ _ _ _ us hl => match us, hl with | [_, _], _ => rfl)
theorem bi_Queue_done {K : PySem.W.Frag} {fd : FuncData} (F : FunD K "done" "Queue.done" (defArgs s_Queue_done) (defBody s_Queue_done) (defScope s_Queue_done) [] [] (He.fAd K ("Queue", some "done")) fd) : Binds K fd ps_Queue_done [] := F.bindsN (fun _ _ _ _ _ _ us hl => match us, hl with | [_, _], _ => rfl)
theorem bi_Queue_retry {K : PySem.W.Frag} {fd : FuncData} (F : FunD K "retry" "Queue.retry" (defArgs s_Queue_retry) (defBody s_Queue_retry) (defScope s_Queue_retry) [] [] (He.fAd K ("Queue", some "retry")) fd) : Binds K fd ps_Queue_retry [] := F.bindsN (fun _ _ _ _ _ _ us hl => match us, hl with | [_, _, _], _ => rfl)
theorem bi_Queue_forget {K : PySem.W.Frag} {fd : FuncData} (F : FunD K "forget" "Queue.forget" (defArgs s_Queue_forget) (defBody s_Queue_forget) (defScope s_Queue_forget) [] [] (He.fAd K ("Queue", some "forget")) fd) : Binds K fd ps_Queue_forget [] := F.bindsN (fun _ _ _ _ _ _ us hl => match us, hl with | [_, _], _ => rfl)
theorem bi_Queue_delay {K : PySem.W.Frag} {fd : FuncData} (F : FunD K "delay" "Queue.delay" (defArgs s_Queue_delay) (defBody s_Queue_delay) (defScope s_Queue_delay) [] [] (He.fAd K ("Queue", some "delay")) fd) : Binds K fd ps_Queue_delay [] := F.bindsN (fun _ _ _ _ _ _ us hl => match us, hl with | [_, _], _ => rfl)
theorem bi_Queue_waiting {K : PySem.W.Frag} {fd : FuncData} (F : FunD K "waiting" "Queue.waiting" (defArgs s_Queue_waiting) (defBody s_Queue_waiting) (defScope s_Queue_waiting) [] [] (He.fAd K ("Queue", some "waiting")) fd) : Binds K fd ps_Queue_waiting [] := F.bindsN (fun _ _ _ _ _ _ us hl => match us, hl with | [_], _ => rfl)
theorem bi_Queue_working {K : PySem.W.Frag} {fd : FuncData} (F : FunD K "working" "Queue.working" (defArgs s_Queue_working) (defBody s_Queue_working) (defScope s_Queue_working) [] [] (He.fAd K ("Queue", some "working")) fd) : Binds K fd ps_Queue_working [] := F.bindsN (fun _ _ _ _ _ _ us hl => match us, hl with | [_], _ => rfl)
theorem bi_Queue_next_time {K : PySem.W.Frag} {fd : FuncData} (F : FunD K "next_time" "Queue.next_time" (defArgs s_Queue_next_time) (defBody s_Queue_next_time) (defScope s_Queue_next_time) [] [] (He.fAd K ("Queue", some "next_time")) fd) : Binds K fd ps_Queue_next_time [] := F.bindsN (fun _ _ _ _ _ _ us hl => match us, hl with | [_], _ => rfl)

/-! ### the heap: what a def with a source of draws leaves -/
/-- all that was tracked, but what stands at a, is as it was -/
def Keep (a : Addr) (H H' : Hp) : Prop := ∀ b o, b ≠ a → H b = some o → H' b = some o
theorem Keep.refl (a : Addr) (H : Hp) : Keep a H H := fun _ _ _ h => h
theorem Keep.trans {a : Addr} {H H1 H2 : Hp} (x : Keep a H H1) (y : Keep a H1 H2) : Keep a H H2 := fun b o n h => y b o n (x b o n h)
theorem Keep.of {a : Addr} {H H1 : Hp} (x : Same H H1) : Keep a H H1 := fun b o _ h => x b o h
theorem Keep.at_ {a : Addr} {H : Hp} {u : HO} : Keep a H (upd H a u) := fun b o n h => by rw [upd_ne n]; exact h
theorem Same.new {H : Hp} {p : Addr} {u : HO} (n : H p = none) : Same H (upd H p u) := fun b o h => by rw [upd_ne (ne_of_none h n)]; exact h
theorem Keep.new {a : Addr} {H : Hp} {p : Addr} {u : HO} (n : H p = none) : Keep a H (upd H p u) := Keep.of (Same.new n)
theorem Keep.seqL {K : PySem.W.Frag} {a b : Addr} {H H1 : Hp} {xs : List V} (x : Keep a H H1) (n : b ≠ a) (h : SqL K H b xs) : SqL K H1 b xs := by
  rcases h with (h | ⟨o, h⟩) | h
  · exact .inl (.inl (x _ _ n h))
  · exact .inl (.inr ⟨o, x _ _ n h⟩)
  · exact .inr h
theorem Keep.seqT {K : PySem.W.Frag} {a b : Addr} {H H1 : Hp} {xs : List V} (x : Keep a H H1) (n : b ≠ a) (h : SqT K H b xs) : SqT K H1 b xs := by
  rcases h with (h | ⟨o, h⟩) | h
  · exact .inl (.inl (x _ _ n h))
  · exact .inl (.inr ⟨o, x _ _ n h⟩)
  · exact .inr h
/-- a flat value: None, a bool, an int, a text -/
def flat : V → Prop
  | .non => True
  | .bl _ => True
  | .int _ => True
  | .str _ => True
  | _ => False
def tyNm : V → Value
  | .non => .type "NoneType"
  | .bl _ => .type "bool"
  | .int _ => .type "int"
  | _ => .type "str"
theorem flat_ty {K : PySem.W.Frag} {H : Hp} {x : V} (h : flat x) : TyX K H x (tyNm x) := by
  cases x with
  | non => exact .base .non
  | bl b => exact .base (.bl b)
  | int i => exact .base (.int i)
  | str z => exact .base (.str z)
  | byt _ => exact h.elim
  | flt _ => exact h.elim
  | ref _ => exact h.elim
  | ty _ => exact h.elim
theorem small3 : (3 : Nat) ≤ sizeLine := by rw [sizeLine_eq]; decide
theorem smallN {n : Nat} (h : n ≤ 1000) : n ≤ sizeLine := Nat.le_of_lt (small1000 h)
theorem yes_ {σ : L2.St} {H : Hp} {Q : Bool → Hp → Prop} (h : Q true H) : tYes σ H Q := h
theorem get_take {α : Type} {xs : List α} {i : Nat} {x : α} (h : xs[i]? = some x) : xs.take (i + 1) = xs.take i ++ [x] := by
  rw [List.take_succ, h]; rfl
theorem mem_at {α : Type} {xs : List α} {i : Nat} {x : α} (h : xs[i]? = some x) : x ∈ xs := List.mem_of_getElem? h
theorem lt_at {α : Type} {xs : List α} {i : Nat} {x : α} (h : xs[i]? = some x) : i < xs.length := (List.getElem?_eq_some_iff.mp h).1
/-! ### flat values as data -/
def dOf : V → PyData
  | .bl b => .bool b
  | .int i => .int i
  | .str z => .str z
  | _ => .none
theorem dp_flat {K : PySem.W.Frag} {H : Hp} {x : V} (h : flat x) : Dp K H x (dOf x) := by
  cases x with
  | non => exact .non
  | bl b => exact .bl b
  | int i => exact .int i
  | str z => exact .str z
  | byt _ => exact h.elim
  | flt _ => exact h.elim
  | ref _ => exact h.elim
  | ty _ => exact h.elim
theorem dps_flat {K : PySem.W.Frag} {H : Hp} : ∀ {xs : List V}, (∀ x ∈ xs, flat x) → DpAll K H xs (xs.map dOf)
  | [], _ => .nil
  | x :: xs, h => .cons (dp_flat (h x (List.mem_cons_self ..))) (dps_flat fun y hy => h y (List.mem_cons_of_mem _ hy))
/-- a text of signs that there are -/
def okS : V → Prop
  | .str z => PyData.strOk z = true
  | _ => True
theorem lay_flat {x : V} (h : okS x) : (dOf x).canLay0 = true := by
  cases x with
  | str z => exact (show PyData.canLay0 (.str z) = true by simpa [PyData.canLay0, okS] using h)
  | _ => simp [dOf, PyData.canLay0]
theorem lays_flat : ∀ {xs : List V}, (∀ x ∈ xs, okS x) → PyData.canLayAll0 (xs.map dOf) = true
  | [], _ => by simp [PyData.canLayAll0]
  | x :: xs, h => by simp [PyData.canLayAll0, lay_flat (h x (List.mem_cons_self ..)), lays_flat (xs := xs) fun y hy => h y (List.mem_cons_of_mem _ hy)]
theorem dep_flat (x : V) : (dOf x).depth = 0 := by cases x <;> simp [dOf, PyData.depth]
theorem deps_flat : ∀ xs : List V, PyData.depthAll (xs.map dOf) = 0
  | [] => by simp [PyData.depthAll]
  | x :: xs => by simp [PyData.depthAll, dep_flat x, deps_flat xs]
theorem sh_flat {x : V} (h : okS x) : SeqAt.shaped (dOf x) = true := by simp [SeqAt.shaped, lay_flat h, dep_flat x]
theorem sh_list {xs : List V} (h : ∀ x ∈ xs, okS x) : SeqAt.shaped (.list (xs.map dOf)) = true := by simp [SeqAt.shaped, PyData.canLay0, PyData.depth, lays_flat h, deps_flat xs]
theorem sh_tup {xs : List V} (h : ∀ x ∈ xs, okS x) : SeqAt.shaped (.tuple (xs.map dOf)) = true := by simp [SeqAt.shaped, PyData.canLay0, PyData.depth, lays_flat h, deps_flat xs]
theorem eqv_nil (xs : List V) : PyData.eqv (.list (xs.map dOf)) (.list []) = xs.isEmpty := by
  cases xs <;> simp [PyData.eqv, PyData.eqvAll]
/-- len of a list or a tuple, within a comprehension -/
def rLenK (K : PySem.W.Frag) : List V → Hp → VK → Prop := fun xs H Q => ∃ p ys, xs = [V.ref p] ∧ (SqL K H p ys ∨ SqT K H p ys) ∧ Q (V.int ys.length) H
/-- dict(pairs), within a comprehension -/
def rDictP (K : PySem.W.Frag) : List V → Hp → VK → Prop := fun xs H Q => ∃ (a : Addr) (ps : List Addr) (kvs : List (Key × V)), xs = [.ref a] ∧ SqL K H a (ps.map V.ref) ∧ Paired (fun p kv => SqT K H p [kV kv.1, kv.2]) ps kvs ∧
  ∀ p, H p = none → Q (.ref p) (upd H p (.dK (mergeK [] kvs)))
theorem lay_same {H H' : Hp} {l : Addr} {u : HO} (e : upd H l u = H') (h : H l = none) : Same H H' := e ▸ Same.new h
theorem lay_at {H H' : Hp} {l : Addr} {u : HO} (e : upd H l u = H') : H' l = some u := e ▸ upd_same

/-! ### the source of draws: [digits, a number, a count] -/
def WellO (u : HO) (n : Nat) : Prop := ∃ x y : Int, u = .lst [.int x, .int y, .int (n : Int)]
def WellAt (H : Hp) (a : Addr) (n : Nat) : Prop := ∃ u, H a = some u ∧ WellO u n
def sp__law_cell_at (K : PySem.W.Frag) : Sp := fun vs H Q _ => ∃ (a : Addr) (ns : List Int), vs = [.ref a, .int 0] ∧ SqL K H a (ns.map V.int) ∧ ∀ i : Int, Q (.int i) H
theorem ok__law_cell_at {P : Program} {w : World} {K : PySem.W.Frag} {mg : Str → Option Value} {base : Heap} {fd : FuncData} (T : Txt K mg w) (F : FnP K "_law_cell_at" s__law_cell_at [] fd) : FnOk P w K mg base CX0 1 (He.ga K "_law_cell_at") fd ps__law_cell_at (sp__law_cell_at K) := by
  refine F.ok sc__law_cell_at (fun vs H Q E h => ?len) (fun cdv A outer s H vs Q E hr h => ?body)
  case len => obtain ⟨a, ns, rfl, hS, k⟩ := h; rfl
  case body =>
  obtain ⟨a, ns, rfl, hS, k⟩ := h
  have hu := hu_of hr
  refine ⟨_, PSs.nox (pss_cons (ps_if (pt_cmpR op_lt (pv 1) (pe_callB call_len_seq (by rfl) T.n_len (by decide +kernel) (pa_cons (pv 0) pa_nil)) (nomark _)) (pss_one (ps_ret (pe_ix ix_list (pv 0) (pv 1) (fun _ _ => rfl)))) pss_nil)
    (pss_one (ps_ret pe_int))), ?_⟩
  refine ⟨_, rfl, _, rfl, a, _, rfl, .inl hS, _, _, rfl, rfl, _, rfl, ?_⟩
  refine ite2 (fun hlt => ?_) (fun _ => k 0)
  cases ns with
  | nil => simp at hlt
  | cons i r => exact ⟨_, rfl, _, rfl, a, _, 0, .int i, rfl, rfl, hS, atI_nat (j := 0) rfl, k i⟩
def sp__law_well (K : PySem.W.Frag) : Sp := fun vs H Q _ => ∃ (i : Int), vs = [.int i] ∧ ∀ (a : Addr) (u : HO), H a = none → WellO u 0 → Q (.ref a) (upd H a u)
theorem ok__law_well {P : Program} {w : World} {K : PySem.W.Frag} {mg : Str → Option Value} {base : Heap} {fd : FuncData} (T : Txt K mg w) (F : FnP K "_law_well" s__law_well [] fd) : FnOk P w K mg base CX0 1 (He.ga K "_law_well") fd ps__law_well (sp__law_well K) := by
  refine F.ok sc__law_well (fun vs H Q E h => ?len) (fun cdv A outer s H vs Q E hr h => ?body)
  case len => obtain ⟨i, rfl, k⟩ := h; rfl
  case body =>
  obtain ⟨i, rfl, k⟩ := h
  have hu := hu_of hr
  refine ⟨_, PSs.nox (pss_one (ps_ret (pe_lst (pa_cons (pe_op op_mul (pv 0) (pe_callTy call_int1 (by rfl) T.n_int (by decide +kernel) (pa_cons (pe_cmpR op_ge (pv 0) (pe_op op_pow pe_int pe_int) (nomark _)) pa_nil))) (pa_cons (pv 0) (pa_cons pe_int pa_nil)))))), ?_⟩
  refine ⟨_, rfl, _, rfl, _, _, rfl, rfl, ⟨by decide, by decide, by decide⟩, _, _, rfl, rfl, .inr ⟨_, rfl, _, _, rfl, rfl, .inr ?_, _, rfl, smallN (by show 3 ≤ 1000; decide), fun p hp => k p _ hp ⟨_, _, rfl⟩⟩⟩
  split <;> constructor <;> decide
/-- a number from 0 to m - 1; the source goes on -/
def sp__law_draw (K : PySem.W.Frag) : Sp := fun vs H Q _ => ∃ (a : Addr) (n : Nat) (m : Int), vs = [.ref a, .int m] ∧ WellAt H a n ∧ n < 1000000 ∧ 0 < m ∧ m ≤ 1000000000 ∧
  ∀ (r : Int) (u : HO) (n' : Nat), 0 ≤ r → r < m → n' ≤ n + 1 → WellO u n' → Q (.int r) (upd H a u)
theorem natAbs_lt64 {z : Int} (h1 : -(2 ^ 40) < z) (h2 : z < 2 ^ 40) : z.natAbs < 2 ^ 64 := by omega
theorem mod_lt' (z : Int) {m : Int} (h : 0 < m) : 0 ≤ z % m ∧ z % m < m := ⟨Int.emod_nonneg _ (by omega), Int.emod_lt_of_pos _ h⟩
theorem wdiv {i j : Int} (h : 0 < j) (h2 : j ≤ 2 ^ 32) : CDivW i j := wide_div (b := 40) h (by omega) (by decide) (by decide)
theorem ok__law_draw {P : Program} {w : World} {K : PySem.W.Frag} {mg : Str → Option Value} {base : Heap} {fd : FuncData} (T : Txt K mg w) (F : FnP K "_law_draw" s__law_draw [] fd) : FnOk P w K mg base CX0 1 (He.ga K "_law_draw") fd ps__law_draw (sp__law_draw K) := by
  refine F.ok sc__law_draw (fun vs H Q E h => ?len) (fun cdv A outer s H vs Q E hr h => ?body)
  case len => obtain ⟨a, n, m, rfl, ⟨u, hu0, x, y, rfl⟩, hn, hm, hm2, k⟩ := h; rfl
  case body =>
  obtain ⟨a, n, m, rfl, ⟨u, hu0, x, y, rfl⟩, hn, hm, hm2, k⟩ := h
  have hu := hu_of hr
  refine ⟨_, PSs.nox (pss_cons (ps_if (pt_cmpR op_gt (pe_ix ix_list (pv 0) pe_int (fun _ _ => rfl)) pe_int (nomark _)) (pss_cons (ps_set (i := 2) sc__law_draw.nd rfl (Or.inl rfl) (pe_op op_mod (pe_callTy call_int1 (by rfl) T.n_int (by decide +kernel) (pa_cons (pe_ix ix_list (pv 0) pe_int (fun _ _ => rfl)) pa_nil)) (pv 1)))
      (pss_cons (ps_asg (pe_op op_fdivW (pe_ix ix_list (pv 0) pe_int (fun _ _ => rfl)) (pv 1)) (pg_sub (pv 0) pe_int set_list))
      (pss_one (ps_ret (pv 2))))) pss_nil)
    (pss_cons (ps_asg (pe_op op_add (pe_ix ix_list (pv 0) pe_int (fun _ _ => rfl)) pe_int) (pg_sub (pv 0) pe_int set_list))
    (pss_cons (ps_set (i := 3) sc__law_draw.nd rfl (Or.inl rfl) (pe_op op_mod (pe_callTy call_int1 (by rfl) T.n_int (by decide +kernel) (pa_cons (pe_op op_fdivW (pe_ix ix_list (pv 0) pe_int (fun _ _ => rfl)) pe_int) pa_nil)) pe_int))
    (pss_cons (ps_set (i := 4) sc__law_draw.nd rfl (Or.inl rfl) (pe_op op_add (pe_op op_add (pe_op op_add (pe_op op_mod (pe_callTy call_int1 (by rfl) T.n_int (by decide +kernel) (pa_cons (pe_ix ix_list (pv 0) pe_int (fun _ _ => rfl)) pa_nil)) pe_int) (pe_op op_mul pe_int (pe_ix ix_list (pv 0) pe_int (fun _ _ => rfl)))) (pv 3)) pe_int))
    (pss_cons (ps_set (i := 5) sc__law_draw.nd rfl (Or.inl rfl) (pe_op op_mod (pe_callTy call_int1 (by rfl) T.n_int (by decide +kernel) (pa_cons (pe_op op_pow (pv 4) pe_int) pa_nil)) pe_int))
    (pss_cons (ps_set (i := 5) sc__law_draw.nd rfl (Or.inl rfl) (pe_op op_mod (pe_callTy call_int1 (by rfl) T.n_int (by decide +kernel) (pa_cons (pe_op op_mul (pv 5) (pe_op op_add (pe_op op_add (pe_op op_fdivW (pv 5) pe_int) pe_int) (pe_ix ix_list (pv 0) pe_int (fun _ _ => rfl)))) pa_nil)) pe_int))
    (pss_one (ps_ret (pe_op op_mod (pe_callTy call_int1 (by rfl) T.n_int (by decide +kernel) (pa_cons (pe_op op_mod (pe_callTy call_int1 (by rfl) T.n_int (by decide +kernel) (pa_cons (pe_op op_mul (pv 5) (pe_op op_add (pe_op op_fdivW (pv 5) pe_int) pe_int)) pa_nil)) pe_int) pa_nil)) (pv 1)))))))))), ?_⟩
  have hS : SqL K H a [.int x, .int y, .int (n : Int)] := SqL.of hu0
  refine ⟨_, rfl, a, _, 0, _, rfl, rfl, hS, rfl, _, _, rfl, rfl, _, rfl, ?_⟩
  refine ite2 (fun hx => ?_) (fun hx => ?_)
  · refine ⟨_, rfl, a, _, 0, _, rfl, rfl, hS, rfl, .inl ⟨_, rfl, _, rfl, _, _, rfl, rfl, hm, ?_⟩⟩
    refine ⟨_, rfl, a, _, 0, _, rfl, rfl, hS, rfl, _, rfl, _, _, rfl, rfl, wdiv hm (by omega), _, rfl, a, _, _, 0, rfl, rfl, hu0, rfl, _, rfl, ?_⟩
    exact k _ _ n (mod_lt' x hm).1 (mod_lt' x hm).2 (Nat.le_succ _) ⟨_, _, rfl⟩
  · refine ⟨_, rfl, a, _, 2, _, rfl, rfl, hS, rfl, _, _, rfl, rfl, _, rfl, a, _, _, 2, rfl, rfl, hu0, rfl, ?_⟩
    have hu1 : upd H a (.lst ([.int x, .int y, .int (n : Int)].set 2 (.int ((n : Int) + 1)))) a = some (.lst [.int x, .int y, .int ((n : Int) + 1)]) := upd_same
    have hS1 : SqL K (upd H a (.lst ([.int x, .int y, .int (n : Int)].set 2 (.int ((n : Int) + 1))))) a [.int x, .int y, .int ((n : Int) + 1)] := SqL.of hu1
    refine ⟨_, rfl, a, _, 1, _, rfl, rfl, hS1, rfl, _, _, rfl, rfl, wdiv (by decide) (by decide), .inl ⟨_, rfl, _, _, rfl, rfl, (by show (0 : Int) < 65521; decide), ?_⟩⟩
    refine ⟨_, rfl, a, _, 1, _, rfl, rfl, hS1, rfl, .inl ⟨_, rfl, _, _, rfl, rfl, (by show (0 : Int) < 2147483629; decide), ?_⟩⟩
    have b1 := mod_lt' y (m := 2147483629) (by decide)
    have b2 := mod_lt' (y / 2147483629) (m := 65521) (by decide)
    generalize y % 2147483629 = e1 at b1 ⊢
    generalize y / 2147483629 % 65521 = e2 at b2 ⊢
    refine ⟨_, rfl, a, _, 2, _, rfl, rfl, hS1, rfl, _, _, rfl, rfl, .inl ⟨by decide, by decide⟩, _, _, rfl, rfl, _, rfl, _, _, rfl, rfl, _, _, rfl, rfl, ?_⟩
    refine ⟨_, rfl, _, _, rfl, rfl, ⟨by decide, by decide, natAbs_lt64 (by omega) (by omega)⟩, .inl ⟨_, rfl, _, _, rfl, rfl, (by show (0 : Int) < 2147483647; decide), ?_⟩⟩
    have b3 := mod_lt' ((e1 + 7919 * ((n : Int) + 1) + e2 + 1) ^ (5 : Int).toNat) (m := 2147483647) (by decide)
    generalize (e1 + 7919 * ((n : Int) + 1) + e2 + 1) ^ (5 : Int).toNat % 2147483647 = e3 at b3 ⊢
    refine ⟨_, rfl, _, rfl, _, _, rfl, rfl, wdiv (by decide) (by decide), _, _, rfl, rfl, _, rfl, a, _, 2, _, rfl, rfl, hS1, rfl, _, _, rfl, rfl, _, _, rfl, rfl, .inl ⟨by omega, by omega⟩, .inl ⟨_, rfl, _, _, rfl, rfl, (by show (0 : Int) < 2147483629; decide), ?_⟩⟩
    have b4 := mod_lt' (e3 * (e3 / 1009 + 69621 + ((n : Int) + 1))) (m := 2147483629) (by decide)
    generalize e3 * (e3 / 1009 + 69621 + ((n : Int) + 1)) % 2147483629 = e4 at b4 ⊢
    refine ⟨_, rfl, _, rfl, _, _, rfl, rfl, wdiv (by decide) (by decide), _, _, rfl, rfl, _, _, rfl, rfl, .inl ⟨by omega, by omega⟩, .inl ⟨_, rfl, _, _, rfl, rfl, (by show (0 : Int) < 2147483399; decide), .inl ⟨_, rfl, _, rfl, _, _, rfl, rfl, hm, ?_⟩⟩⟩
    exact k _ _ (n + 1) (mod_lt' _ hm).1 (mod_lt' _ hm).2 (Nat.le_refl _) ⟨_, _, rfl⟩

/-! ### one of some values -/
theorem well_ne {H : Hp} {a b : Addr} {n : Nat} {o : HO} (h : WellAt H a n) (hb : H b = some o) (ho : ∀ xs, o = .lst xs → xs.length ≠ 3) : b ≠ a := by
  obtain ⟨u, hu, x, y, rfl⟩ := h
  exact ne_of hb hu fun z => ho _ z rfl
theorem well_ne3 {H : Hp} {a p : Addr} {n : Nat} (h : WellAt H a n) (hp : H p = none) : p ≠ a := by
  obtain ⟨u, hu, _⟩ := h
  exact fun z => by rw [z, hu] at hp; cases hp
theorem well_upd {H : Hp} {a : Addr} {n : Nat} {u : HO} (h : WellO u n) : WellAt (upd H a u) a n := ⟨u, upd_same, h⟩
theorem well_new {H : Hp} {a p : Addr} {n : Nat} {u : HO} (h : WellAt H a n) (hp : H p = none) : WellAt (upd H p u) a n := by
  obtain ⟨v, hv, w⟩ := h
  exact ⟨v, by rw [upd_ne (ne_of_none hv hp)]; exact hv, w⟩
def sp__law_one (K : PySem.W.Frag) : Sp := fun vs H Q _ => ∃ (a b : Addr) (n : Nat) (ys : List V), vs = [.ref a, .ref b] ∧ WellAt H a n ∧ n < 1000000 ∧ H b = some (.lst ys) ∧ b ≠ a ∧ 0 < ys.length ∧ ys.length ≤ 1000 ∧
  ∀ (y : V) (u : HO) (n' : Nat), y ∈ ys → n' ≤ n + 1 → WellO u n' → Q y (upd H a u)
theorem ok__law_one {P : Program} {w : World} {K : PySem.W.Frag} {mg : Str → Option Value} {base : Heap} {fd : FuncData} (T : Txt K mg w) (F : FnP K "_law_one" s__law_one [] fd) : FnOk P w K mg base CX0 2 (He.ga K "_law_one") fd ps__law_one (sp__law_one K) := by
  obtain ⟨fd__law_draw, F__law_draw⟩ := T.d__law_draw
  have G__law_draw := ok__law_draw (P := P) (w := w) (base := base) T F__law_draw
  have k__law_draw := F__law_draw.kp
  have b__law_draw := bi__law_draw F__law_draw
  refine F.ok sc__law_one (fun vs H Q E h => ?len) (fun cdv A outer s H vs Q E hr h => ?body)
  case len => obtain ⟨a, b, n, ys, rfl, hw, hn, hb, hne, h0, h1, k⟩ := h; rfl
  case body =>
  obtain ⟨a, b, n, ys, rfl, hw, hn, hb, hne, h0, h1, k⟩ := h
  have hu := hu_of hr
  refine ⟨_, PSs.nox (pss_one (ps_ret (pe_ix ix_list (pv 1) (pe_call G__law_draw (hr.mono (by first | decide | omega)) rfl T.g__law_draw k__law_draw b__law_draw .nil pass0 (pa_cons (pv 0) (pa_cons (pe_callB call_len_seq (by rfl) T.n_len (by decide +kernel) (pa_cons (pv 1) pa_nil)) pa_nil))) (fun _ _ => rfl)))), ?_⟩
  refine ⟨_, rfl, _, rfl, _, rfl, b, ys, rfl, .inl (SqL.of hb), a, n, _, rfl, hw, hn, (by omega), (by omega), fun r u n' r0 r1 hn' hu' => ?_⟩
  have hb' : upd H a u b = some (.lst ys) := by rw [upd_ne hne]; exact hb
  obtain ⟨j, rfl⟩ := Int.eq_ofNat_of_zero_le r0
  have hj : j < ys.length := by omega
  have e : ys[j]? = some ys[j] := List.getElem?_eq_getElem hj
  exact ⟨b, ys, _, ys[j], rfl, rfl, SqL.of hb', atI_nat e, k _ u n' (List.getElem_mem hj) hn' hu'⟩

/-! ### x.rsplit(sep, k) -/
/-- how many pieces there can be -/
theorem rsplit_few (a b : Str) (k : Int) (room : a.length + 2 ≤ sizeLine) : (Builtin.Str.partsBetween a (Builtin.Str.occurrencesFromRight a b (limitOf a k)) b.length).length ≤ sizeLine ∧ (PySem.Txt.rsplitMax a b k).length ≤ sizeLine := by
  have most : (Builtin.Str.partsBetween a (Builtin.Str.occurrencesFromRight a b (limitOf a k)) b.length).length ≤ sizeLine := by have := StrLaws.occR_length_le_len a b (limitOf a k); rw [length_partsBetween]; omega
  have one : ∀ z : Str, [z].length ≤ sizeLine := fun _ => smallN (by show 1 ≤ 1000; decide)
  refine ⟨most, ?_⟩
  unfold PySem.Txt.rsplitMax
  repeat' split
  all_goals first | exact one _ | exact most
theorem mt_rsplitMax {X : Cx} : MtR X "str.rsplit" (fun x xs H Q => ∃ (a b : Str) (k : Int), x = .str a ∧ xs = [.str b, .int k] ∧ (b.length == 0) = false ∧ -(2 ^ 63) ≤ k ∧ k < 2 ^ 63 ∧ a.length + 2 ≤ sizeLine ∧ rNewStrs (PySem.Txt.rsplitMax a b k) H Q) := fun pins s σ H x xs v us Q I rx rs ⟨a, b, k, ex, exs, full, low, high, room, want⟩ => by
  subst ex exs
  obtain ⟨t, rfl⟩ := rx
  obtain ⟨_, rest1, rfl, ⟨u, rfl⟩, rs2⟩ : ∃ u1 r, us = u1 :: r ∧ RelV (.str b) u1 ∧ Vals [.int k] r := by cases rs with | cons r1 r2 => exact ⟨_, _, rfl, r1, r2⟩
  obtain ⟨_, rfl, ⟨n, rfl⟩⟩ := vals1 rs2
  have fits : (decide (k < -(2 ^ 63 : Int)) || decide (k ≥ 2 ^ 63)) = false := Bool.or_eq_false_iff.mpr ⟨decide_eq_false (by omega), decide_eq_false (by omega)⟩
  have ⟨few, fewR⟩ := rsplit_few a b k room
  -- the call goes by one of three roads; in each the pieces laid are those of rsplitMax
  cases c1 : (decide (a.length < b.length) || decide (Builtin.Str.strKind a < Builtin.Str.strKind b)) with
  | true => exact call_meets PySem.F.slot_str_rsplit (typeIs_str _ _ _) PySem.F.entry_str_rsplit (PySem.F.args_str_rsplit_3 _ _ _) (meets_str_rsplit_max_cannot_occur a b k t u n fits c1) (laid_strs (l := [(a, t)]) (k := s.toks) I (if_pos c1).symm fewR want)
  | false =>
    have no1 := ne_true_of_eq_false c1
    cases c2 : (Builtin.Str.occurrencesFromRight a b (limitOf a k)).isEmpty with
    | true => exact call_meets PySem.F.slot_str_rsplit (typeIs_str _ _ _) PySem.F.entry_str_rsplit (PySem.F.args_str_rsplit_3 _ _ _) (meets_str_rsplit_max_not_found a b k t u n fits c1 full c2) (laid_strs (l := [(a, t)]) (k := s.toks) I ((if_neg no1).trans (if_pos c2)).symm fewR want)
    | false =>
      refine call_meets PySem.F.slot_str_rsplit (typeIs_str _ _ _) PySem.F.entry_str_rsplit (PySem.F.args_str_rsplit_3 _ _ _) (meets_str_rsplit_sep_max a b k t u n fits c1 full c2 (by omega) few) ?_
      rw [strsFrom_eq]
      exact laid_strs I ((numbered_texts _ _).trans ((if_neg no1).trans (if_neg (ne_true_of_eq_false c2))).symm) fewR want
/-! what it gives for one dash -/
theorem occR_full (s sub : Str) : ∀ (l : List Nat) (st : Array Nat × Nat), ¬ st.fst.size < 1 → (forIn l st (StrLaws.occRBody s sub 1)).run = st
  | [], st, h => rfl
  | a :: l, st, h => by
    rw [List.forIn_cons]
    unfold StrLaws.occRBody
    rw [if_neg (fun z => h z.1.1)]
    exact occR_full s sub l st h
theorem occR_one (s sub : Str) (hs : sub.length = 1) {j : Nat} (hj : j ≤ s.length) (at_ : j < s.length ∧ Builtin.Str.subAt s sub j = true) (no : ∀ i, j < i → i < s.length → Builtin.Str.subAt s sub i = false) :
    ∀ (n k : Nat), s.length - k - j + 1 ≤ n → s.length - k ≥ j → k ≤ s.length → (forIn (List.range' k n) ((#[], s.length) : Array Nat × Nat) (StrLaws.occRBody s sub 1)).run = (#[j], j)
  | 0, k, h, h2, h3 => by omega
  | n + 1, k, h, h2, h3 => by
    rw [List.range'_succ, List.forIn_cons]
    unfold StrLaws.occRBody
    by_cases e : s.length - k = j
    · rw [e, if_pos ⟨⟨by show 0 < 1; decide, by show j + sub.length ≤ s.length; omega⟩, at_.2⟩]
      exact occR_full s sub _ _ (by simp)
    · rw [if_neg]
      · exact occR_one s sub hs hj at_ no n (k + 1) (by omega) (by omega) (by omega)
      · rintro ⟨⟨_, q⟩, z⟩
        rw [no _ (by omega) (by omega)] at z
        cases z

/-! ### names -/
def Vl (H : Hp) (x : V) : Prop := flat x ∨ ∃ a, x = .ref a ∧ ((∃ xs, H a = some (.lst xs)) ∨ (∃ xs, H a = some (.tup xs)) ∨ ∃ kvs, H a = some (.dK kvs))
def isI : V → Bool
  | .int _ => true
  | _ => false
def isS : V → Bool
  | .str _ => true
  | _ => false
theorem vl_ty {K : PySem.W.Frag} {H : Hp} {x : V} (h : Vl H x) (c : String) (f : V → Bool) (h1 : kitB "NoneType" c = some (f .non)) (h2 : ∀ b, kitB "bool" c = some (f (.bl b))) (h3 : ∀ i, kitB "int" c = some (f (.int i))) (h4 : ∀ z, kitB "str" c = some (f (.str z)))
    (h5 : ∀ a, kitB "list" c = some (f (.ref a))) (h6 : ∀ a, kitB "tuple" c = some (f (.ref a))) (h7 : ∀ a, kitB "dict" c = some (f (.ref a))) : ∃ u, TyX K H x u ∧ PySem.W.kitOne K u (.type c) = some (f x) := by
  rcases h with hf | ⟨a, rfl, ⟨xs, g⟩ | ⟨xs, g⟩ | ⟨xs, g⟩⟩
  · cases x with
    | non => exact ⟨_, .base .non, kit_ty h1⟩
    | bl b => exact ⟨_, .base (.bl b), kit_ty (h2 b)⟩
    | int i => exact ⟨_, .base (.int i), kit_ty (h3 i)⟩
    | str z => exact ⟨_, .base (.str z), kit_ty (h4 z)⟩
    | byt _ => exact hf.elim
    | flt _ => exact hf.elim
    | ref _ => exact hf.elim
    | ty _ => exact hf.elim
  · exact ⟨_, .base (.lst g), kit_ty (h5 a)⟩
  · exact ⟨_, .base (.tup g), kit_ty (h6 a)⟩
  · exact ⟨_, .base (.dK g), kit_ty (h7 a)⟩
theorem vl_str {K : PySem.W.Frag} {H : Hp} {x : V} (h : Vl H x) : ∃ u, TyX K H x u ∧ PySem.W.kitOne K u (.type "str") = some (isS x) :=
  vl_ty h "str" isS (by decide +kernel) (fun _ => by show _ = some false; decide +kernel) (fun _ => by show _ = some false; decide +kernel) (fun _ => by show _ = some true; decide +kernel) (fun _ => by show _ = some false; decide +kernel) (fun _ => by show _ = some false; decide +kernel) (fun _ => by show _ = some false; decide +kernel)
def isIB : V → Bool
  | .int _ => true
  | .bl _ => true
  | _ => false
def isBl : V → Bool
  | .bl _ => true
  | _ => false
theorem vl_int {K : PySem.W.Frag} {H : Hp} {x : V} (h : Vl H x) : ∃ u, TyX K H x u ∧ PySem.W.kitOne K u (.type "int") = some (isIB x) :=
  vl_ty h "int" isIB (by decide +kernel) (fun _ => by show _ = some true; decide +kernel) (fun _ => by show _ = some true; decide +kernel) (fun _ => by show _ = some false; decide +kernel) (fun _ => by show _ = some false; decide +kernel) (fun _ => by show _ = some false; decide +kernel) (fun _ => by show _ = some false; decide +kernel)
theorem vl_bool {K : PySem.W.Frag} {H : Hp} {x : V} (h : Vl H x) : ∃ u, TyX K H x u ∧ PySem.W.kitOne K u (.type "bool") = some (isBl x) :=
  vl_ty h "bool" isBl (by decide +kernel) (fun _ => by show _ = some true; decide +kernel) (fun _ => by show _ = some false; decide +kernel) (fun _ => by show _ = some false; decide +kernel) (fun _ => by show _ = some false; decide +kernel) (fun _ => by show _ = some false; decide +kernel) (fun _ => by show _ = some false; decide +kernel)
def sp_is_integer (K : PySem.W.Frag) : Sp := fun vs H Q _ => ∃ (x : V), vs = [x] ∧ Vl H x ∧ Q (.bl (isI x)) H
theorem ok_is_integer {P : Program} {w : World} {K : PySem.W.Frag} {mg : Str → Option Value} {base : Heap} {fd : FuncData} (T : Txt K mg w) (F : FnP K "is_integer" s_is_integer [] fd) : FnOk P w K mg base CX0 1 (He.ga K "is_integer") fd ps_is_integer (sp_is_integer K) := by
  refine F.ok sc_is_integer (fun vs H Q E h => ?len) (fun cdv A outer s H vs Q E hr h => ?body)
  case len => obtain ⟨x, rfl, hf, k⟩ := h; rfl
  case body =>
  obtain ⟨x, rfl, hf, k⟩ := h
  have hu := hu_of hr
  refine ⟨_, PSs.nox (pss_one (ps_ret (pe_and (pe_callB call_isi (by rfl) T.n_isinstance (by decide +kernel) (pa_cons (pv 0) (pa_cons (pe_bltn (v := .ty "int") rfl T.n_int (by decide +kernel) rfl) pa_nil))) (pe_one (pe_not (pe_callB call_isi (by rfl) T.n_isinstance (by decide +kernel) (pa_cons (pv 0) (pa_cons (pe_bltn (v := .ty "bool") rfl T.n_bool (by decide +kernel) rfl) pa_nil)))))))), ?_⟩
  obtain ⟨u, h1, h2⟩ := vl_int (K := K) hf
  obtain ⟨u', h3, h4⟩ := vl_bool (K := K) hf
  refine ⟨_, rfl, _, .ty "int", _, _, _, rfl, .ty "int", h1, h2, _, rfl, ?_⟩
  cases x with
  | int i => exact iteT ⟨_, rfl, _, .ty "bool", _, _, _, rfl, .ty "bool", h3, h4, _, rfl, k⟩
  | bl b => exact iteT ⟨_, rfl, _, .ty "bool", _, _, _, rfl, .ty "bool", h3, h4, _, rfl, k⟩
  | non => exact iteF k
  | str _ => exact iteF k
  | byt _ => exact iteF k
  | flt _ => exact iteF k
  | ref _ => exact iteF k
  | ty _ => exact iteF k
def tl (z : Str) : List Nat := z.cps.toList
def smallT : Str := "abcdefghijklmnopqrstuvwxyz"
def digitT : Str := "0123456789"
def inSm (c : Nat) : Bool := decide (c ∈ tl smallT)
def inSD (c : Nat) : Bool := decide (c ∈ tl (smallT ++ digitT))
def inDg (c : Nat) : Bool := decide (c ∈ tl digitT)
def firstSm : List Nat → Bool
  | c :: _ => inSm c
  | [] => false
/-- a user name -/
def userL (l : List Nat) : Bool := decide (1 ≤ l.length ∧ l.length ≤ 10) && (firstSm l && l.all inSD)
def userB (z : Str) : Bool := userL (tl z)
def userV : V → Bool
  | .str z => userB z
  | _ => false
theorem len_tl (z : Str) : z.length = (tl z).length := by
  unfold tl; rw [Array.length_toList]; rfl
theorem small5 {n : Nat} (h : n ≤ 100000) : n ≤ sizeLine := by rw [sizeLine_eq]; omega
theorem small5' {n : Nat} (h : n ≤ 100000) : n < sizeLine := by rw [sizeLine_eq]; omega
theorem take_at {z : Str} {i : Nat} {c : Nat} (h : z.cps[i]? = some c) : (tl z)[i]? = some c := by
  unfold tl; rw [Array.getElem?_toList]; exact h
theorem size_tl (z : Str) : z.cps.size = (tl z).length := by unfold tl; rw [Array.length_toList]
/-- a text is not too long -/
def Shrt (x : V) : Prop := ∀ z, x = .str z → z.length ≤ 100000
def sp_is_user_name (K : PySem.W.Frag) : Sp := fun vs H Q _ => ∃ (x : V), vs = [x] ∧ Vl H x ∧ Shrt x ∧ ∀ H', Same H H' → Q (.bl (userV x)) H'
theorem ok_is_user_name {P : Program} {w : World} {K : PySem.W.Frag} {mg : Str → Option Value} {base : Heap} {fd : FuncData} (T : Txt K mg w) (F : FnP K "is_user_name" s_is_user_name [] fd) : FnOk P w K mg base CX0 1 (He.ga K "is_user_name") fd ps_is_user_name (sp_is_user_name K) := by
  obtain ⟨t_SMALL, h_SMALL⟩ := T.c_SMALL
  obtain ⟨t_DIGITS, h_DIGITS⟩ := T.c_DIGITS
  obtain ⟨t_MOST_SIGNS, h_MOST_SIGNS⟩ := T.c_MOST_SIGNS
  refine F.ok sc_is_user_name (fun vs H Q E h => ?len) (fun cdv A outer s H vs Q E hr h => ?body)
  case len => obtain ⟨x, rfl, hv, hz, k⟩ := h; rfl
  case body =>
  obtain ⟨x, rfl, hv, hz, k⟩ := h
  have hu := hu_of hr
  refine ⟨_, PSs.nox (pss_cons (ps_if (PW.pt (pw_or (pt_not (pt_val (pe_callB call_isi (by rfl) T.n_isinstance (by decide +kernel) (pa_cons (pv 0) (pa_cons (pe_bltn (v := .ty "str") rfl T.n_str (by decide +kernel) rfl) pa_nil))))) (pw_or (pt_not (pt_chain op_le op_le pe_int (pe_callB call_len_str (by rfl) T.n_len (by decide +kernel) (pa_cons (pv 0) pa_nil)) (pe_glob (v := .int 10) rfl h_MOST_SIGNS ⟨_, rfl⟩))) (pw_or1 (pt_cmpR op_notIn_sign (pe_ix ix_str (pv 0) pe_int (fun _ _ => rfl)) (pe_glob (v := .str "abcdefghijklmnopqrstuvwxyz") rfl h_SMALL ⟨_, rfl⟩) (by rfl)))))) (pss_one (ps_ret pe_bl)) pss_nil)
    (pss_one (ps_ret (pe_callB (cr_all rfl) (by rfl) T.n_all (by decide +kernel) (pa_cons (pe_lc (own := [("sign", 1)]) rfl sc_is_user_name.nd (pi_str (pv 0)) (blkOk_by (own := [("sign", 1)]) (N := N_is_user_name) (sc := defScope s_is_user_name) (by decide +kernel)) (fun _ _ _ _ _ => (pg_name (i := 1) sc_is_user_name.nd rfl (Or.inl rfl))) (fun _ _ _ _ _ => pts_nil) (fun _ _ _ _ _ => (pe_cmpR op_in_sign (pv 1) (pe_op op_add_str (pe_glob (v := .str "abcdefghijklmnopqrstuvwxyz") rfl h_SMALL ⟨_, rfl⟩) (pe_glob (v := .str "0123456789") rfl h_DIGITS ⟨_, rfl⟩)) (by rfl)))) pa_nil))))), ?_⟩
  obtain ⟨u, h1, h2⟩ := vl_str (K := K) hv
  have other : isS x = false → userV x = false := fun e => by cases x <;> first | rfl | cases e
  by_cases hs : isS x = false
  · refine ⟨_, rfl, x, .ty "str", _, _, _, rfl, .ty "str", h1, h2, _, rfl, ?_⟩
    rw [hs]
    have q := k H (Same.refl H)
    rw [other hs] at q
    exact iteT (iteT q)
  obtain ⟨z, rfl⟩ : ∃ z, x = .str z := by cases x <;> first | exact ⟨_, rfl⟩ | exact absurd rfl hs
  replace k : ∀ H', Same H H' → Q (.bl (userB z)) H' := k
  replace hz := hz z rfl
  have bad : userB z = false → Q (.bl false) H := fun e => by have := k H (Same.refl H); rw [e] at this; exact this
  refine ⟨_, rfl, .str z, .ty "str", _, _, _, rfl, .ty "str", h1, h2, _, rfl, ?_⟩
  refine iteF ⟨_, rfl, z, rfl, small5 hz, _, _, rfl, rfl, _, rfl, ?_⟩
  by_cases h1 : (1 : Int) ≤ (z.length : Int)
  · rw [decide_eq_true h1]
    refine iteT ⟨_, _, rfl, rfl, _, rfl, ?_⟩
    by_cases h2 : (z.length : Int) ≤ 10
    · rw [decide_eq_true h2]
      refine iteF ?_
      obtain ⟨c, cs, ec⟩ : ∃ c cs, tl z = c :: cs := by
        cases e : tl z with
        | nil => rw [len_tl, e] at h1; exact absurd h1 (by decide)
        | cons c cs => exact ⟨c, cs, rfl⟩
      have e0 : (tl z)[0]? = some c := by rw [ec]; rfl
      refine ⟨_, rfl, z, 0, c, rfl, rfl, small5 hz, atI_nat (j := 0) e0, ⟨_, _, rfl, rfl, _, rfl, ?_⟩⟩
      by_cases hc : c ∈ tl smallT
      · have hc2 : decide (c ∈ (Str.ofString "abcdefghijklmnopqrstuvwxyz").cps.toList) = true := decide_eq_true hc
        rw [hc2]
        refine iteF ?_
        refine ⟨_, rfl, z, rfl, fun D hD => ?_⟩
        refine lc_it walk_str (fun i H' => Same H H' ∧ H' D = some (.lst (((tl z).take i).map fun c => V.bl (inSD c)))) ⟨Same.new hD, upd_same⟩ (fun _ _ _ _ => True.intro) ?_ ?_
        · rintro i x H1 H2 hi ⟨sm, gD⟩ ⟨rfl, c', hc', rfl⟩
          refine ⟨rfl, yes_ ?_⟩
          refine iteT ?_
          refine ⟨_, rfl, _, _, rfl, rfl, (by decide), _, _, rfl, rfl, ?_⟩
          refine ⟨_, gD, small5' (by rw [List.length_map, List.length_take]; rw [len_tl] at hz; omega), fun b o hb => ?_, ?_⟩
          · rw [upd_ne (ne_of_none hb hD)]; exact sm b o hb
          · rw [upd_same, get_take (take_at hc'), List.map_append]; rfl
        · rintro H' ⟨sm, gD⟩
          rw [size_tl, List.take_length] at gD
          have gD2 : H' D = some (.lst (((tl z).map inSD).map V.bl)) := by rw [gD, List.map_map]; rfl
          refine ⟨D, (tl z).map inSD, rfl, SqL.of gD2, ?_⟩
          have := k H' sm
          have e : userB z = ((tl z).map inSD).all id := by
            unfold userB userL
            rw [decide_eq_true (show 1 ≤ (tl z).length ∧ (tl z).length ≤ 10 by rw [← len_tl]; omega)]
            have : firstSm (tl z) = true := by rw [ec]; exact decide_eq_true hc
            rw [this]
            simp [List.all_map]
          rw [e] at this
          exact this
      · have hc2 : decide (c ∈ (Str.ofString "abcdefghijklmnopqrstuvwxyz").cps.toList) = false := decide_eq_false hc
        rw [hc2]
        refine iteT (bad ?_)
        unfold userB userL
        have : firstSm (tl z) = false := by rw [ec]; exact decide_eq_false hc
        rw [this]; simp
    · rw [decide_eq_false h2]
      refine iteT (iteT (bad ?_))
      unfold userB userL
      rw [decide_eq_false (show ¬ (1 ≤ (tl z).length ∧ (tl z).length ≤ 10) by rw [← len_tl]; omega)]; rfl
  · rw [decide_eq_false h1]
    refine iteF ⟨_, rfl, iteT (iteT (bad ?_))⟩
    unfold userB userL
    rw [decide_eq_false (show ¬ (1 ≤ (tl z).length ∧ (tl z).length ≤ 10) by rw [← len_tl]; omega)]; rfl

theorem kdct_of {K : PySem.W.Frag} {w : World} {a : Addr} {kvs : List (Str × He.Dv)} (h : ∃ es n, KDict K w a es n) (hv : He.valsB K a kvs = true) {q : Str × He.Dv} (hq : q ∈ kvs) : KDct K w a q.1 (q.2.v K) := by
  obtain ⟨es, n, hl, hk, _⟩ := h
  obtain ⟨u, e, r⟩ := He.valsB_ok hv hq
  exact ⟨es, n, u, hl, hk, e, r⟩

/-! ### numbers -/
theorem S_tl (z : Str) : SX.S (tl z) = z := by
  obtain ⟨a⟩ := z
  show (⟨a.toList.toArray⟩ : Str) = _
  rw [Array.toArray_toList]
theorem tl_S (l : List Nat) : tl (SX.S l) = l := rfl
def numF (l : List Nat) (w : Nat) : Option Nat := if (1 ≤ l.length ∧ l.length ≤ w) ∧ l.all inDg = true then (if TL.numL (NumText.digitsVal l) = l then some (NumText.digitsVal l) else none) else none
def oInt : Option Nat → V
  | some n => .int (n : Int)
  | none => .non
theorem dg_all {l : List Nat} (h : l.all inDg = true) : NumText.AllDigits l := fun c hc => by
  have h1 := of_decide_eq_true (List.all_eq_true.mp h c hc)
  have e : tl digitT = [48, 49, 50, 51, 52, 53, 54, 55, 56, 57] := by decide +kernel
  rw [e] at h1
  simp only [List.mem_cons, List.not_mem_nil, or_false] at h1
  omega
theorem dv_lt : ∀ (l : List Nat) (acc : Nat), NumText.AllDigits l → l.foldl (fun a c => a * 10 + (c - 48)) acc < (acc + 1) * 10 ^ l.length
  | [], acc, _ => by simp
  | c :: l, acc, h => by
    have q := dv_lt l (acc * 10 + (c - 48)) h.tail
    have hc := h.head
    have e : (acc + 1) * 10 ^ (c :: l).length = ((acc + 1) * 10) * 10 ^ l.length := by rw [List.length_cons, Nat.pow_succ, Nat.mul_assoc, Nat.mul_comm (10 ^ l.length)]
    rw [e]
    exact Nat.lt_of_lt_of_le q (Nat.mul_le_mul_right _ (by omega))
theorem dv_lt6 {l : List Nat} (h : NumText.AllDigits l) (hl : l.length ≤ 6) : NumText.digitsVal l < 1000000 := by
  have q := dv_lt l 0 h
  have e : (0 + 1) * 10 ^ l.length ≤ 10 ^ 6 := by rw [Nat.zero_add, Nat.one_mul]; exact Nat.pow_le_pow_right (by decide) hl
  exact Nat.lt_of_lt_of_le q e
theorem dv_log {l : List Nat} (h : NumText.AllDigits l) (hl : l.length ≤ 6) : ((NumText.digitsVal l : Nat) : Int).natAbs.log2 < 1920 := by
  have q := dv_lt6 h hl
  rw [Int.natAbs_natCast]
  by_cases z : NumText.digitsVal l = 0
  · rw [z]; decide
  · exact (Nat.log2_lt z).mpr (Nat.lt_trans q (by decide +kernel))
def sp_number_of (K : PySem.W.Frag) : Sp := fun vs H Q _ => ∃ (z : Str) (hi : Int) (w : Nat), vs = [.str z, .int hi] ∧ z.length ≤ 100000 ∧ (hi = 99 ∧ w = 2 ∨ hi = 999999 ∧ w = 6) ∧ ∀ H', Same H H' → Q (oInt (numF (tl z) w)) H'
theorem ok_number_of {P : Program} {w : World} {K : PySem.W.Frag} {mg : Str → Option Value} {base : Heap} {fd : FuncData} (T : Txt K mg w) (F : FnP K "number_of" s_number_of [] fd) : FnOk P w K mg base CX0 1 (He.ga K "number_of") fd ps_number_of (sp_number_of K) := by
  obtain ⟨t_DIGITS, h_DIGITS⟩ := T.c_DIGITS
  refine F.ok sc_number_of (fun vs H Q E h => ?len) (fun cdv A outer s H vs Q E hr h => ?body)
  case len => obtain ⟨z, hi, wd, rfl, hz, hw, k⟩ := h; rfl
  case body =>
  obtain ⟨z, hi, wd, rfl, hz, hw, k⟩ := h
  have hu := hu_of hr
  refine ⟨_, PSs.nox (pss_cons (ps_if (PW.pt (pw_or (pt_not (pt_chain op_le op_le pe_int (pe_callB call_len_str (by rfl) T.n_len (by decide +kernel) (pa_cons (pv 0) pa_nil)) (pe_callB call_len_str (by rfl) T.n_len (by decide +kernel) (pa_cons (pe_callTy call_str_int (by rfl) T.n_str (by decide +kernel) (pa_cons (pv 1) pa_nil)) pa_nil)))) (pw_or1 (pt_not (pt_val (pe_callB (cr_all rfl) (by rfl) T.n_all (by decide +kernel) (pa_cons (pe_lc (own := [("sign", 2)]) rfl sc_number_of.nd (pi_str (pv 0)) (blkOk_by (own := [("sign", 2)]) (N := N_number_of) (sc := defScope s_number_of) (by decide +kernel)) (fun _ _ _ _ _ => (pg_name (i := 2) sc_number_of.nd rfl (Or.inl rfl))) (fun _ _ _ _ _ => pts_nil) (fun _ _ _ _ _ => (pe_cmpR op_in_sign (pv 2) (pe_glob (v := .str "0123456789") rfl h_DIGITS ⟨_, rfl⟩) (by rfl)))) pa_nil))))))) (pss_one (ps_ret pe_non)) pss_nil)
    (pss_one (ps_ret (pe_ifExp (pt_cmpR op_eq (pe_callTy call_str_int (by rfl) T.n_str (by decide +kernel) (pa_cons (pe_callTy call_int_str (by rfl) T.n_int (by decide +kernel) (pa_cons (pv 0) pa_nil)) pa_nil)) (pv 0) (nomark _)) (pe_callTy call_int_str (by rfl) T.n_int (by decide +kernel) (pa_cons (pv 0) pa_nil)) pe_non)))), ?_⟩
  have w6 : wd ≤ 6 := by rcases hw with ⟨_, rfl⟩ | ⟨_, rfl⟩ <;> decide
  have hs : (Str.ofString (toString hi)).length = wd ∧ hi.natAbs.log2 < 1920 := by rcases hw with ⟨rfl, rfl⟩ | ⟨rfl, rfl⟩ <;> exact ⟨by decide +kernel, by decide +kernel⟩
  have bad : numF (tl z) wd = none → ∀ H', Same H H' → Q .non H' := fun e H' S => by have q := k H' S; rw [e] at q; exact q
  refine ⟨_, rfl, z, rfl, small5 hz, _, _, rfl, rfl, _, rfl, ?_⟩
  by_cases h1 : (1 : Int) ≤ (z.length : Int)
  rotate_left
  · rw [decide_eq_false h1]
    refine iteF ⟨_, rfl, iteT (iteT (bad ?_ H (Same.refl H)))⟩
    unfold numF
    rw [if_neg (fun q => h1 (by have := q.1.1; rw [← len_tl] at this; omega))]
  rw [decide_eq_true h1]
  refine iteT ⟨_, rfl, hi, rfl, hs.2, _, rfl, small5 (by rw [hs.1]; omega), _, _, rfl, rfl, _, rfl, ?_⟩
  rw [hs.1]
  by_cases h2 : (z.length : Int) ≤ (wd : Int)
  rotate_left
  · rw [decide_eq_false h2]
    refine iteT (iteT (bad ?_ H (Same.refl H)))
    unfold numF
    rw [if_neg (fun q => h2 (by have := q.1.2; rw [← len_tl] at this; omega))]
  rw [decide_eq_true h2]
  refine iteF ?_
  refine ⟨_, rfl, z, rfl, fun D hD => ?_⟩
  refine lc_it walk_str (fun i H' => Same H H' ∧ H' D = some (.lst (((tl z).take i).map fun c => V.bl (inDg c)))) ⟨Same.new hD, upd_same⟩ (fun _ _ _ _ => True.intro) ?_ ?_
  · rintro i x H1 H2 hi ⟨sm, gD⟩ ⟨rfl, c', hc', rfl⟩
    refine ⟨rfl, yes_ (iteT ?_)⟩
    refine ⟨_, rfl, _, _, rfl, rfl, ?_⟩
    refine ⟨_, gD, small5' (by rw [List.length_map, List.length_take]; rw [len_tl] at hz; omega), fun b o hb => ?_, ?_⟩
    · rw [upd_ne (ne_of_none hb hD)]; exact sm b o hb
    · rw [upd_same, get_take (take_at hc'), List.map_append]; rfl
  · rintro H' ⟨sm, gD⟩
    rw [size_tl, List.take_length] at gD
    have gD2 : H' D = some (.lst (((tl z).map inDg).map V.bl)) := by rw [gD, List.map_map]; rfl
    refine ⟨D, (tl z).map inDg, rfl, SqL.of gD2, ?_⟩
    have ea : ((tl z).map inDg).all id = (tl z).all inDg := by rw [List.all_map]; rfl
    rw [ea]
    refine ⟨_, rfl, ?_⟩
    by_cases hd : (tl z).all inDg = true
    rotate_left
    · rw [Bool.not_eq_true _ |>.mp hd]
      refine iteT (bad ?_ H' sm)
      unfold numF
      rw [if_neg (fun q => hd q.2)]
    rw [hd]
    refine iteF ?_
    have ad := dg_all hd
    have ne : tl z ≠ [] := fun e => by rw [len_tl, e] at h1; exact absurd h1 (by decide)
    have it : PySem.intText? z = some ((NumText.digitsVal (tl z) : Nat) : Int) := intText_digits ad ne (by omega)
    have lg := dv_log ad (by rw [← len_tl]; omega)
    refine ⟨_, rfl, z, _, rfl, it, by omega, _, rfl, lg, _, rfl, rfl, _, rfl, ?_⟩
    have fin := k H' sm
    have e0 : numF (tl z) wd = if TL.numL (NumText.digitsVal (tl z)) = tl z then some (NumText.digitsVal (tl z)) else none := by
      unfold numF
      rw [if_pos ⟨⟨by rw [← len_tl]; omega, by rw [← len_tl]; omega⟩, hd⟩]
    rw [e0] at fin
    by_cases c : TL.numL (NumText.digitsVal (tl z)) = tl z
    · rw [if_pos c] at fin
      rw [decide_eq_true (by show V.str (Str.ofString (toString ((NumText.digitsVal (tl z) : Nat) : Int))) = V.str z; rw [SX.num_S, c, S_tl])]
      exact iteT ⟨_, rfl, z, _, rfl, it, by omega, fin⟩
    · rw [if_neg c] at fin
      rw [decide_eq_false (fun q => c (by
        have q : V.str (Str.ofString (toString ((NumText.digitsVal (tl z) : Nat) : Int))) = V.str z := q
        rw [SX.num_S] at q
        exact congrArg tl (V.str.inj q)))]
      exact iteF fin
/-- what a made name tells: a text or a number -/
inductive What where
  | t (l : List Nat)
  | n (k : Nat)
  deriving DecidableEq
def What.v : What → V
  | .t l => .str (SX.S l)
  | .n k => .int (k : Int)
def partF (c : Nat) (l : List Nat) : Option What := if c = 110 then (if userL l = true then some (.t l) else none) else (numF l (if c = 114 then 6 else 2)).map What.n
def oWhat : Option What → V
  | some w => w.v
  | none => .non
def letters4 : List Nat := [115, 106, 110, 114]
def sp_part_of (K : PySem.W.Frag) : Sp := fun vs H Q _ => ∃ (c : Nat) (z : Str), vs = [.str (SX.S [c]), .str z] ∧ c ∈ letters4 ∧ z.length ≤ 100000 ∧ ∀ H', Same H H' → Q (oWhat (partF c (tl z))) H'
theorem ok_part_of {P : Program} {w : World} {K : PySem.W.Frag} {mg : Str → Option Value} {base : Heap} {fd : FuncData} (T : Txt K mg w) (F : FnP K "part_of" s_part_of [] fd) : FnOk P w K mg base CX0 2 (He.ga K "part_of") fd ps_part_of (sp_part_of K) := by
  obtain ⟨fd_number_of, F_number_of⟩ := T.d_number_of
  have G_number_of := ok_number_of (P := P) (w := w) (base := base) T F_number_of
  have k_number_of := F_number_of.kp
  have b_number_of := bi_number_of F_number_of
  obtain ⟨fd_is_user_name, F_is_user_name⟩ := T.d_is_user_name
  have G_is_user_name := ok_is_user_name (P := P) (w := w) (base := base) T F_is_user_name
  have k_is_user_name := F_is_user_name.kp
  have b_is_user_name := bi_is_user_name F_is_user_name
  refine F.ok sc_part_of (fun vs H Q E h => ?len) (fun cdv A outer s H vs Q E hr h => ?body)
  case len => obtain ⟨c, z, rfl, hc, hz, k⟩ := h; rfl
  case body =>
  obtain ⟨c, z, rfl, hc, hz, k⟩ := h
  have hu := hu_of hr
  refine ⟨_, PSs.nox (pss_cons (ps_if (pt_cmpR op_eq (pv 0) pe_str (nomark _)) (pss_one (ps_ret (pe_ifExp (pt_val (pe_call G_is_user_name (hr.mono (by first | decide | omega)) rfl T.g_is_user_name k_is_user_name b_is_user_name .nil pass0 (pa_cons (pv 1) pa_nil))) (pv 1) pe_non))) pss_nil)
    (pss_one (ps_ret (pe_call G_number_of (hr.mono (by first | decide | omega)) rfl T.g_number_of k_number_of b_number_of .nil pass0 (pa_cons (pv 1) (pa_cons (pe_ix ix_kdict (pe_glob (v := .ref (He.ga K "HIGHEST")) rfl T.g_HIGHEST rfl) (pv 0) (fun _ _ => rfl)) pa_nil)))))), ?_⟩
  refine ⟨_, rfl, rfl, _, rfl, ?_⟩
  by_cases hn : c = 110
  · subst hn
    rw [decide_eq_true (by decide +kernel)]
    refine iteT ⟨_, rfl, _, rfl, .inl True.intro, (fun z' e => by cases e; exact hz), fun H' S => ⟨_, rfl, ?_⟩⟩
    have q := k H' S
    show if userB z = true then _ else _
    by_cases u : userL (tl z) = true
    · have e : partF 110 (tl z) = some (.t (tl z)) := by unfold partF; rw [if_pos rfl, if_pos u]
      rw [e] at q
      rw [show userB z = true from u]
      refine iteT ⟨_, rfl, ?_⟩
      have q : Q (.str (SX.S (tl z))) H' := q
      rw [S_tl] at q
      exact q
    · have e : partF 110 (tl z) = none := by unfold partF; rw [if_pos rfl, if_neg u]
      rw [e] at q
      rw [show userB z = false from Bool.not_eq_true _ |>.mp u]
      exact iteF q
  · rw [decide_eq_false (fun q => hn (by
      have q : V.str (SX.S [c]) = V.str "n" := q
      have e := congrArg tl (V.str.inj q)
      have e2 : tl (Str.ofString "n") = [110] := by decide +kernel
      rw [e2] at e
      exact List.head_eq_of_cons_eq e))]
    refine iteF ?_
    have num : ∀ (x : Str) (hi : Int) (wd : Nat), KDct K w (He.ga K "HIGHEST") (SX.S [c]) (.int hi) → (hi = 99 ∧ wd = 2 ∨ hi = 999999 ∧ wd = 6) → (if c = 114 then 6 else 2) = wd →
        tCall (sp_number_of K) [] E0 (tCons (tVar 1) (tCons (tOp (rIxD K w) (tC (.ref (He.ga K "HIGHEST"))) (tVar 0)) tNil)) [some (.str (SX.S [c])), some (.str z)] H Q := fun x hi wd kd hw ew =>
      ⟨_, rfl, _, rfl, _, _, _, rfl, rfl, kd, z, hi, wd, rfl, hz, hw, fun H' S => by
        have q := k H' S
        unfold partF at q
        rw [if_neg hn, ew] at q
        cases e : numF (tl z) wd with
        | none => rw [e] at q; exact q
        | some m => rw [e] at q; exact q⟩
    have O := exT T.ex
    simp only [letters4, List.mem_cons, List.not_mem_nil, or_false] at hc
    rcases hc with rfl | rfl | rfl | rfl
    · exact num "s" 99 2 (kdct_of T.kd_HIGHEST O.val_HIGHEST (q := ("s", .int 99)) (by simp)) (.inl ⟨rfl, rfl⟩) rfl
    · exact num "j" 99 2 (kdct_of T.kd_HIGHEST O.val_HIGHEST (q := ("j", .int 99)) (by simp)) (.inl ⟨rfl, rfl⟩) rfl
    · exact absurd rfl hn
    · exact num "r" 999999 6 (kdct_of T.kd_HIGHEST O.val_HIGHEST (q := ("r", .int 999999)) (by simp)) (.inr ⟨rfl, rfl⟩) rfl

/-! ### the last dash -/
def lastDash : List Nat → Option (List Nat × List Nat)
  | [] => none
  | c :: l => match lastDash l with
    | some (m, e) => some (c :: m, e)
    | none => if c = 45 then some ([], l) else none
theorem dash_none : ∀ {l : List Nat}, lastDash l = none → 45 ∉ l
  | [], _ => by simp
  | c :: l, h => by
    unfold lastDash at h
    split at h
    · cases h
    · rename_i e
      split at h
      · cases h
      · rename_i hc
        intro z
        rcases List.mem_cons.mp z with q | q
        · exact hc q.symm
        · exact dash_none e q
theorem dash_some : ∀ {l m e : List Nat}, lastDash l = some (m, e) → l = m ++ 45 :: e ∧ 45 ∉ e
  | [], _, _, h => by cases h
  | c :: l, m, e, h => by
    unfold lastDash at h
    split at h
    · rename_i m' e' q
      cases h
      obtain ⟨h1, h2⟩ := dash_some q
      exact ⟨by rw [h1]; rfl, h2⟩
    · rename_i q
      split at h
      · rename_i hc
        cases h
        exact ⟨by rw [hc]; rfl, dash_none q⟩
      · cases h
theorem extract_list (z : Str) (i j : Nat) : (z.cps.extract i j).toList = ((tl z).drop i).take (j - i) := by
  unfold tl
  rw [Array.toList_extract, List.extract_eq_take_drop]
theorem sub_S (z : Str) (i j : Nat) : Builtin.Str.strSub z i j = SX.S (((tl z).drop i).take (j - i)) := by
  show (⟨z.cps.extract i j⟩ : Str) = _
  rw [← extract_list, SX.S, Array.toArray_toList]
theorem at_dash {z : Str} {i : Nat} : Builtin.Str.subAt z "-" i = true ↔ (tl z)[i]? = some 45 := by
  unfold Builtin.Str.subAt
  rw [beq_iff_eq]
  have e : (("-" : Str)).cps = #[45] := by decide +kernel
  have el : (("-" : Str)).length = 1 := by decide +kernel
  rw [e, el]
  have q : z.cps.extract i (i + 1) = #[45] ↔ ((tl z).drop i).take 1 = [45] := by
    rw [← Array.toList_inj, extract_list, Nat.add_sub_cancel_left]
  rw [q]
  cases h : (tl z).drop i with
  | nil =>
    have : (tl z).length ≤ i := List.drop_eq_nil_iff.mp h
    rw [List.getElem?_eq_none_iff.mpr this]
    simp
  | cons c r =>
    have hc : (tl z)[i]? = some c := by rw [← List.head?_drop, h]; rfl
    rw [hc]
    simp
theorem rsplit_dash {z : Str} {m e : List Nat} (h : tl z = m ++ 45 :: e) (hn : 45 ∉ e) : PySem.Txt.rsplitMax z "-" 1 = [SX.S m, SX.S e] := by
  have hl : z.length = m.length + 1 + e.length := by rw [len_tl, h, List.length_append, List.length_cons]; omega
  have el : (("-" : Str)).length = 1 := by decide +kernel
  have occ : Builtin.Str.occurrencesFromRight z "-" (limitOf z 1) = [m.length] := by
    show Builtin.Str.occurrencesFromRight z "-" 1 = [m.length]
    rw [StrLaws.occR_eq, occR_one z "-" el (j := m.length) (by omega) ⟨by omega, at_dash.mpr (by rw [h, List.getElem?_append_right (Nat.le_refl _), Nat.sub_self]; rfl)⟩ ?_ (z.length + 1) 0 (by omega) (by omega) (by omega)]
    · rfl
    · intro i h1 h2
      cases q : Builtin.Str.subAt z "-" i with
      | false => rfl
      | true =>
        have z1 := at_dash.mp q
        rw [h, List.getElem?_append_right (by omega), show i - m.length = (i - m.length - 1) + 1 by omega, List.getElem?_cons_succ] at z1
        exact absurd (List.mem_of_getElem? z1) hn
  have kind : (decide (z.length < ("-" : Str).length) || decide (Builtin.Str.strKind z < Builtin.Str.strKind "-")) = false := by
    rw [decide_eq_false (by rw [el]; omega), decide_eq_false]
    · rfl
    · have k1 : Builtin.Str.strKind "-" = 1 := by decide +kernel
      rw [k1]
      unfold Builtin.Str.strKind
      split
      · decide
      · split <;> decide
  unfold PySem.Txt.rsplitMax
  rw [if_neg (by rw [kind]; decide), occ, if_neg (by simp)]
  unfold Builtin.Str.partsBetween
  show [Builtin.Str.strSub z 0 m.length, Builtin.Str.strSub z (m.length + ("-" : Str).length) z.length] = _
  rw [sub_S, sub_S, el, h]
  have e1 : List.take (m.length - 0) (List.drop 0 (m ++ 45 :: e)) = m := by simp
  have e2 : List.take (z.length - (m.length + 1)) (List.drop (m.length + 1) (m ++ 45 :: e)) = e := by
    rw [show m ++ 45 :: e = (m ++ [45]) ++ e by simp, List.drop_left' (by simp)]
    exact List.take_of_length_le (by omega)
  rw [e1, e2]
/-! ### made names taken apart -/
abbrev Ap : Type := List Nat × Nat × What
def isR : Option Ap → Bool
  | some (_, c, _) => c == 114
  | none => false
def apartN : Nat → List Nat → Option Ap
  | 0, _ => none
  | n + 1, l => if 22 < l.length then none else match lastDash l with
    | some (m, c :: r) => if c ∈ letters4 then (match partF c r with
      | some w => if (userL m || (c == 115 && isR (apartN n m))) = true then some (m, c, w) else none
      | none => none) else none
    | _ => none
def makerN (n : Nat) (m : List Nat) (c : Nat) : Bool := userL m || (c == 115 && isR (apartN n m))
theorem apart_fuel : ∀ (n : Nat) (l : List Nat), l.length < n → apartN n l = apartN (n + 1) l
  | 0, _, h => by omega
  | n + 1, l, h => by
    unfold apartN
    by_cases c : 22 < l.length
    · rw [if_pos c, if_pos c]
    · rw [if_neg c, if_neg c]
      split
      · rename_i m c' r e
        have hd := (dash_some e).1
        have hl := congrArg List.length hd
        rw [List.length_append, List.length_cons, List.length_cons] at hl
        rw [apart_fuel n m (by omega)]
      · rfl
theorem apart_up {l : List Nat} : ∀ {n k : Nat}, l.length < n → apartN (n + k) l = apartN n l
  | n, 0, _ => rfl
  | n, k + 1, h => by
    rw [← Nat.add_assoc, ← apart_fuel (n + k) l (by omega), apart_up h]
theorem apart_long {l : List Nat} {n : Nat} (h : 22 < l.length) : apartN n l = none := by
  cases n with
  | zero => rfl
  | succ n => unfold apartN; rw [if_pos h]
/-- a made name taken apart -/
def apartL (l : List Nat) : Option Ap := apartN 24 l
theorem apart_eq {l : List Nat} {n : Nat} (h : l.length < n ∨ 22 < l.length) (hn : n ≤ 24) : apartN n l = apartL l := by
  unfold apartL
  rcases h with h | h
  · rw [show 24 = n + (24 - n) by omega, apart_up h]
  · rw [apart_long h, apart_long h]
def makerL (m : List Nat) (c : Nat) : Bool := userL m || (c == 115 && isR (apartL m))
def apartV : V → Option Ap
  | .str z => apartL (tl z)
  | _ => none
def makerV : V → Nat → Bool
  | .str z, c => makerL (tl z) c
  | _, _ => false
def ApR (H : Hp) (v : V) : Option Ap → Prop
  | none => v = .non
  | some (m, c, w) => ∃ p, v = .ref p ∧ H p = some (.tup [.str (SX.S m), .str (SX.S [c]), w.v])
/-- short enough for n turns -/
def Trn (n : Nat) (x : V) : Prop := ∀ z, x = .str z → z.length < n ∨ 22 < z.length
def sp_apart (n : Nat) (K : PySem.W.Frag) : Sp := fun vs H Q _ => ∃ (x : V), vs = [x] ∧ Vl H x ∧ Shrt x ∧ Trn n x ∧ (0 < n ∧ n ≤ 24) ∧ ∀ v H', Same H H' → ApR H' v (apartV x) → Q v H'
def sp_is_maker (n : Nat) (K : PySem.W.Frag) : Sp := fun vs H Q _ => ∃ (x : V) (c : Nat), vs = [x, .str (SX.S [c])] ∧ Vl H x ∧ Shrt x ∧ Trn n x ∧ (0 < n ∧ n ≤ 24) ∧ ∀ H', Same H H' → Q (.bl (makerV x c)) H'
theorem Vl.same {H H' : Hp} {x : V} (h : Vl H x) (s : Same H H') : Vl H' x := by
  rcases h with h | ⟨a, e, ⟨xs, g⟩ | ⟨xs, g⟩ | ⟨xs, g⟩⟩
  · exact .inl h
  · exact .inr ⟨a, e, .inl ⟨xs, s _ _ g⟩⟩
  · exact .inr ⟨a, e, .inr (.inl ⟨xs, s _ _ g⟩)⟩
  · exact .inr ⟨a, e, .inr (.inr ⟨xs, s _ _ g⟩)⟩
theorem isS_str {x : V} (h : isS x = true) : ∃ z, x = .str z := by cases x <;> first | exact ⟨_, rfl⟩ | cases h
theorem tl_s : tl (Str.ofString "s") = [115] := by decide +kernel
theorem tl_r : tl (Str.ofString "r") = [114] := by decide +kernel
theorem one_ne {c d : Nat} (h : c ≠ d) {t : Str} (ht : tl t = [d]) : V.str (SX.S [c]) ≠ V.str t := fun q => h (by
  have e := congrArg tl (V.str.inj q)
  rw [ht] at e
  exact List.head_eq_of_cons_eq e)
theorem one_eq {d : Nat} {t : Str} (ht : tl t = [d]) : SX.S [d] = t := by rw [← ht, S_tl]
theorem Same.trans' {H H1 H2 : Hp} (a : Same H H1) (b : Same H1 H2) : Same H H2 := fun x o h => b x o (a x o h)
theorem ok_is_maker {P : Program} {w : World} {K : PySem.W.Frag} {mg : Str → Option Value} {base : Heap} {fd : FuncData} (T : Txt K mg w) (F : FnP K "is_maker" s_is_maker [] fd) {n : Nat} (IH : ∀ {fd : FuncData}, FnP K "apart" s_apart [] fd → FnOk P w K mg base CX0 (2 * n + 3) (He.ga K "apart") fd ps_apart (sp_apart n K)) : FnOk P w K mg base CX0 (2 * n + 4) (He.ga K "is_maker") fd ps_is_maker (sp_is_maker n K) := by
  obtain ⟨fd_is_user_name, F_is_user_name⟩ := T.d_is_user_name
  have G_is_user_name := ok_is_user_name (P := P) (w := w) (base := base) T F_is_user_name
  have k_is_user_name := F_is_user_name.kp
  have b_is_user_name := bi_is_user_name F_is_user_name
  obtain ⟨fd_apart, F_apart⟩ := T.d_apart
  have G_apart := IH F_apart
  have k_apart := F_apart.kp
  have b_apart := bi_apart F_apart
  refine F.ok sc_is_maker (fun vs H Q E h => ?len) (fun cdv A outer s H vs Q E hr h => ?body)
  case len => obtain ⟨x, c, rfl, hv, hs, ht, hn, k⟩ := h; rfl
  case body =>
  obtain ⟨x, c, rfl, hv, hs, ht, hn, k⟩ := h
  have hu := hu_of hr
  refine ⟨_, PSs.nox (pss_cons (ps_if (pt_val (pe_call G_is_user_name (hr.mono (by first | decide | omega)) rfl T.g_is_user_name k_is_user_name b_is_user_name .nil pass0 (pa_cons (pv 0) pa_nil))) (pss_one (ps_ret pe_bl)) pss_nil)
    (pss_cons (ps_if (pt_cmpR op_ne (pv 1) pe_str (nomark _)) (pss_one (ps_ret pe_bl)) pss_nil)
    (pss_cons (ps_set (i := 2) sc_is_maker.nd rfl (Or.inl rfl) (pe_call G_apart (hr.mono (by first | decide | omega)) rfl T.g_apart k_apart b_apart .nil pass0 (pa_cons (pv 0) pa_nil)))
    (pss_one (ps_ret (pe_and (pe_cmpR op_notN (pv 2) pe_non (nomark _)) (pe_one (pe_cmpR op_eq (pe_ix ix_tup (pv 2) pe_int (fun _ _ => rfl)) pe_str (nomark _))))))))), ?_⟩
  refine ⟨_, rfl, x, rfl, hv, hs, fun H1 S1 => ⟨_, rfl, ?_⟩⟩
  by_cases hu : userV x = true
  · rw [hu]
    refine iteT ?_
    have q := k H1 S1
    have e : makerV x c = true := by
      cases x with
      | str z => show (userL (tl z) || _) = true; rw [show userL (tl z) = true from hu]; rfl
      | _ => cases hu
    rw [e] at q
    exact q
  rw [Bool.not_eq_true _ |>.mp hu]
  refine iteF ⟨_, rfl, rfl, _, rfl, ?_⟩
  by_cases hc : c = 115
  · subst hc
    rw [decide_eq_true (congrArg V.str (one_eq tl_s))]
    refine iteF ⟨_, rfl, x, rfl, hv.same S1, hs, ht, hn, fun v H2 S2 R2 => ?_⟩
    have q := k H2 (Same.trans' S1 S2)
    have e : makerV x 115 = isR (apartV x) := by
      cases x with
      | str z => show (userL (tl z) || (true && isR (apartL (tl z)))) = _; rw [show userL (tl z) = false from Bool.not_eq_true _ |>.mp hu]; rfl
      | _ => rfl
    rw [e] at q
    refine ⟨_, rfl, rfl, _, rfl, ?_⟩
    generalize apartV x = ap at R2 q
    match ap, R2, q with
    | none, R2, q =>
      cases R2
      exact iteF q
    | some (m, c, w), ⟨p, ev, g⟩, q =>
      cases ev
      refine iteT ⟨_, rfl, p, _, 1, _, rfl, rfl, SqT.of g, rfl, rfl, ?_⟩
      have q : Q (.bl (c == 114)) H2 := q
      by_cases hc : c = 114
      · subst hc
        rw [decide_eq_true (congrArg V.str (one_eq tl_r))]
        exact q
      · rw [decide_eq_false (one_ne hc tl_r)]
        rw [beq_false_of_ne hc] at q
        exact q
  · rw [decide_eq_false (one_ne hc tl_s)]
    refine iteT ?_
    have q := k H1 S1
    have e : makerV x c = false := by
      cases x with
      | str z => show (userL (tl z) || (c == 115 && _)) = false; rw [show userL (tl z) = false from Bool.not_eq_true _ |>.mp hu, beq_false_of_ne hc]; rfl
      | _ => rfl
    rw [e] at q
    exact q
theorem tl_d : tl (Str.ofString "-") = [45] := by decide +kernel
theorem one_v {d : Nat} {t : Str} (ht : tl t = [d]) : V.str t = V.str ⟨#[d]⟩ := by
  rw [← one_eq ht]
theorem in4_yes {c : Nat} (h : c ∈ letters4) : inV (.str (SX.S [c])) [V.str "s", .str "j", .str "n", .str "r"] = true := by
  simp only [letters4, List.mem_cons, List.not_mem_nil, or_false] at h
  rcases h with rfl | rfl | rfl | rfl <;> decide +kernel
theorem in4_no {c : Nat} (h : c ∉ letters4) : inV (.str (SX.S [c])) [V.str "s", .str "j", .str "n", .str "r"] = false := by
  have key : ∀ {d : Nat} {t : Str}, tl t = [d] → d ∈ letters4 → eqV (.str t) (.str (SX.S [c])) = false := fun {d t} ht hd => by
    show (t == SX.S [c]) = false
    exact beq_false_of_ne fun e => one_ne (c := c) (d := d) (fun q => h (q ▸ hd)) ht (congrArg V.str e.symm)
  show (eqV _ _ || (eqV _ _ || (eqV _ _ || (eqV _ _ || false)))) = false
  rw [key tl_s (by decide), key (d := 106) (by decide +kernel) (by decide), key (d := 110) (by decide +kernel) (by decide), key tl_r (by decide)]
  rfl
theorem ok_apart {P : Program} {w : World} {K : PySem.W.Frag} {mg : Str → Option Value} {base : Heap} {fd : FuncData} (T : Txt K mg w) (F : FnP K "apart" s_apart [] fd) {n : Nat} (IH : ∀ {fd : FuncData}, FnP K "is_maker" s_is_maker [] fd → FnOk P w K mg base CX0 (2 * n + 4) (He.ga K "is_maker") fd ps_is_maker (sp_is_maker n K)) : FnOk P w K mg base CX0 (2 * (n + 1) + 3) (He.ga K "apart") fd ps_apart (sp_apart (n + 1) K) := by
  obtain ⟨fd_part_of, F_part_of⟩ := T.d_part_of
  have G_part_of := ok_part_of (P := P) (w := w) (base := base) T F_part_of
  have k_part_of := F_part_of.kp
  have b_part_of := bi_part_of F_part_of
  obtain ⟨fd_is_maker, F_is_maker⟩ := T.d_is_maker
  have G_is_maker := IH F_is_maker
  have k_is_maker := F_is_maker.kp
  have b_is_maker := bi_is_maker F_is_maker
  obtain ⟨t_MOST_MADE, h_MOST_MADE⟩ := T.c_MOST_MADE
  refine F.ok sc_apart (fun vs H Q E h => ?len) (fun cdv A outer s H vs Q E hr h => ?body)
  case len => obtain ⟨x, rfl, hv, hs, ht, hn, k⟩ := h; rfl
  case body =>
  obtain ⟨x, rfl, hv, hs, ht, hn, k⟩ := h
  have hu := hu_of hr
  refine ⟨_, PSs.nox (pss_cons (ps_if (PW.pt (pw_or (pt_not (pt_val (pe_callB call_isi (by rfl) T.n_isinstance (by decide +kernel) (pa_cons (pv 0) (pa_cons (pe_bltn (v := .ty "str") rfl T.n_str (by decide +kernel) rfl) pa_nil))))) (pw_or (pt_cmpR op_gt (pe_callB call_len_str (by rfl) T.n_len (by decide +kernel) (pa_cons (pv 0) pa_nil)) (pe_glob (v := .int 22) rfl h_MOST_MADE ⟨_, rfl⟩) (nomark _)) (pw_or1 (pt_cmpR op_notIn_sign pe_str (pv 0) (by rfl)))))) (pss_one (ps_ret pe_non)) pss_nil)
    (pss_cons (ps_asg (pe_bm PySem.F.plainAttrs_str PySem.F.slot_str_rsplit PySem.F.type_str_rsplit mt_rsplitMax (pv 0) (pa_cons pe_str (pa_cons pe_int pa_nil))) (pg_lst rfl (pgs_cons (pg_name (i := 1) sc_apart.nd rfl (Or.inl rfl)) (pgs_cons (pg_name (i := 2) sc_apart.nd rfl (Or.inl rfl)) pgs_nil))))
    (pss_cons (ps_if (pt_cmpR op_notIn_seq (pe_slice sl_str (pv 2) po_none (po_some pe_int)) (pe_tup (pa_cons pe_str (pa_cons pe_str (pa_cons pe_str (pa_cons pe_str pa_nil))))) (by rfl)) (pss_one (ps_ret pe_non)) pss_nil)
    (pss_cons (ps_set (i := 3) sc_apart.nd rfl (Or.inl rfl) (pe_call G_part_of (hr.mono (by first | decide | omega)) rfl T.g_part_of k_part_of b_part_of .nil pass0 (pa_cons (pe_ix ix_str (pv 2) pe_int (fun _ _ => rfl)) (pa_cons (pe_slice sl_str (pv 2) (po_some pe_int) po_none) pa_nil))))
    (pss_cons (ps_if (PW.pt (pw_or (pt_cmpR op_isN (pv 3) pe_non (nomark _)) (pw_or1 (pt_not (pt_val (pe_call G_is_maker (hr.mono (by first | decide | omega)) rfl T.g_is_maker k_is_maker b_is_maker .nil pass0 (pa_cons (pv 1) (pa_cons (pe_ix ix_str (pv 2) pe_int (fun _ _ => rfl)) pa_nil)))))))) (pss_one (ps_ret pe_non)) pss_nil)
    (pss_one (ps_ret (pe_tup (pa_cons (pv 1) (pa_cons (pe_ix ix_str (pv 2) pe_int (fun _ _ => rfl)) (pa_cons (pv 3) pa_nil))))))))))), ?_⟩
  obtain ⟨u, h1, h2⟩ := vl_str (K := K) hv
  have bad : ∀ H', Same H H' → apartV x = none → Q .non H' := fun H' S e => k .non H' S (by rw [e]; rfl)
  by_cases hx : isS x = true
  rotate_left
  · refine ⟨_, rfl, x, .ty "str", _, _, _, rfl, .ty "str", h1, h2, _, rfl, ?_⟩
    rw [Bool.not_eq_true _ |>.mp hx]
    exact iteT (iteT (bad H (Same.refl H) (by cases x <;> first | rfl | exact absurd rfl hx)))
  obtain ⟨z, rfl⟩ := isS_str hx
  have hz := hs z rfl
  have bad : ∀ H', Same H H' → apartL (tl z) = none → Q .non H' := bad
  refine ⟨_, rfl, .str z, .ty "str", _, _, _, rfl, .ty "str", h1, h2, _, rfl, iteF ?_⟩
  refine ⟨_, rfl, z, rfl, small5 hz, _, _, rfl, rfl, _, rfl, ?_⟩
  by_cases hl : (22 : Int) < (z.length : Int)
  · rw [decide_eq_true hl]
    exact iteT (iteT (bad H (Same.refl H) (apart_long (by rw [← len_tl]; omega))))
  rw [decide_eq_false hl]
  have hl2 : (tl z).length ≤ 22 := by rw [← len_tl]; omega
  have un : apartL (tl z) = apartN (n + 1) (tl z) := (apart_eq (by rw [← len_tl]; exact ht z rfl) hn.2).symm
  refine iteF ⟨_, rfl, 45, z, one_v tl_d, rfl, _, rfl, ?_⟩
  cases hd : lastDash (tl z) with
  | none =>
    rw [decide_eq_false (show ¬ 45 ∈ z.cps.toList from dash_none hd)]
    exact iteT (bad H (Same.refl H) (by rw [un]; unfold apartN; rw [if_neg (by omega), hd]))
  | some me =>
    obtain ⟨m, e⟩ := me
    obtain ⟨d1, d2⟩ := dash_some hd
    have dl := congrArg List.length d1
    rw [List.length_append, List.length_cons] at dl
    rw [decide_eq_true (show 45 ∈ z.cps.toList by show 45 ∈ tl z; rw [d1]; simp)]
    refine iteF ?_
    refine ⟨_, rfl, rfl, z, Str.ofString "-", 1, rfl, rfl, by decide +kernel, by decide, by decide, by rw [sizeLine_eq]; omega, fun p hp => ?_⟩
    rw [rsplit_dash d1 d2]
    refine ⟨p, _, rfl, SqL.of upd_same, rfl, _, _, rfl, _, _, rfl, rfl, ?_⟩
    have S1 := Same.new (u := .lst ([SX.S m, SX.S e].map V.str)) hp
    generalize upd H p (.lst ([SX.S m, SX.S e].map V.str)) = H1 at S1 ⊢
    refine ⟨_, rfl, _, rfl, _, rfl, small5 (by show e.toArray.size ≤ _; rw [List.size_toArray]; omega), smallN (by show 4 ≤ 1000; decide), fun pt hpt => ?_⟩
    rw [C8.cutS_slice, SX.slice_to (by decide)]
    refine ⟨pt, _, rfl, .inr (SqT.of upd_same), rfl, by decide +kernel, _, rfl, ?_⟩
    have S2 := Same.trans' S1 (Same.new (u := .tup [.str "s", .str "j", .str "n", .str "r"]) hpt)
    have cut1 : (1 : Int).toNat = 1 := rfl
    have none_ : (∀ m' c r, lastDash (tl z) = some (m', c :: r) → c ∈ letters4 → False) → apartL (tl z) = none := fun q => by
      rw [un]
      unfold apartN
      rw [if_neg (by omega)]
      split
      · rename_i m' c' r' eq'
        rw [if_neg (fun hc => q _ _ _ eq' hc)]
      · rfl
    match e, hd, d1, d2, dl with
    | [], hd, d1, d2, dl =>
      rw [show inV (.str (SX.S (List.take (1 : Int).toNat []))) [V.str "s", .str "j", .str "n", .str "r"] = false by decide +kernel]
      exact iteT (bad _ S2 (none_ fun m' c r q => by rw [hd] at q; cases q))
    | c :: r, hd, d1, d2, dl =>
      rw [show List.take (1 : Int).toNat (c :: r) = [c] from rfl]
      by_cases hc : c ∈ letters4
      rotate_left
      · rw [in4_no hc]
        exact iteT (bad _ S2 (none_ fun m' c' r' q hc' => by rw [hd] at q; cases q; exact hc hc'))
      rw [in4_yes hc]
      refine iteF ?_
      rw [List.length_cons] at dl
      have sl : (SX.S (c :: r)).length ≤ 100000 := by show (c :: r).toArray.size ≤ _; rw [List.size_toArray, List.length_cons]; omega
      have er : cutS (SX.S (c :: r)) (some 1) none = SX.S r := by rw [C8.cutS_slice, SX.slice_from (by decide)]; rfl
      refine ⟨_, rfl, SX.S (c :: r), 0, c, rfl, rfl, small5 sl, atI_nat (j := 0) rfl, _, rfl, _, rfl, SX.S (c :: r), rfl, small5 sl, ?_⟩
      refine ⟨c, cutS (SX.S (c :: r)) (some 1) none, rfl, hc, Nat.le_trans (cutS_length _ _ _) sl, fun H3 S3 => ?_⟩
      rw [er, tl_S]
      have S03 := Same.trans' S2 S3
      have un2 : apartL (tl z) = match partF c r with
        | some w => if makerN n m c = true then some (m, c, w) else none
        | none => none := by
        rw [un]
        unfold apartN
        rw [if_neg (by omega), hd]
        show (if c ∈ letters4 then _ else _) = _
        rw [if_pos hc]
        rfl
      have mk : makerN n m c = makerL m c := by
        unfold makerN makerL
        rw [apart_eq (by have h1 := ht z rfl; have h2 := len_tl z; omega) (by omega)]
      rw [mk] at un2
      cases hw : partF c r with
      | none =>
        rw [hw] at un2
        exact ⟨_, rfl, rfl, _, rfl, iteT (iteT (bad _ S03 un2))⟩
      | some w =>
        rw [hw] at un2
        have nv : w.v ≠ V.non := by cases w <;> exact fun q => by cases q
        refine ⟨_, rfl, rfl, _, rfl, ?_⟩
        rw [decide_eq_false (show ¬ (oWhat (some w)) = V.non from nv)]
        refine iteF ⟨_, rfl, _, rfl, SX.S (c :: r), 0, c, rfl, rfl, small5 sl, atI_nat (j := 0) rfl, ?_⟩
        refine ⟨.str (SX.S m), c, rfl, .inl True.intro, (fun z' e => by cases e; show m.toArray.size ≤ _; rw [List.size_toArray]; omega), (fun z' e => by cases e; left; show m.toArray.size < _; rw [List.size_toArray]; have h1 := ht z rfl; have h2 := len_tl z; omega), (by have h1 := ht z rfl; have h2 := len_tl z; omega), fun H4 S4 => ⟨_, rfl, ?_⟩⟩
        have S04 := Same.trans' S03 S4
        by_cases hm : makerL m c = true
        · rw [hm] at un2
          rw [show makerV (V.str (SX.S m)) c = true from hm]
          refine iteF ⟨_, rfl, _, rfl, SX.S (c :: r), 0, c, rfl, rfl, small5 sl, atI_nat (j := 0) rfl, _, rfl, smallN (by show 3 ≤ 1000; decide), fun p5 q5 => ?_⟩
          exact k _ _ (Same.trans' S04 (Same.new q5)) (by show ApR _ _ (apartL (tl z)); rw [un2]; exact ⟨p5, rfl, upd_same⟩)
        · rw [Bool.not_eq_true _ |>.mp hm] at un2
          rw [show makerV (V.str (SX.S m)) c = false from Bool.not_eq_true _ |>.mp hm]
          exact iteT (bad _ S04 un2)
/-- both, by turns -/
theorem ok_both {P : Program} {w : World} {K : PySem.W.Frag} {mg : Str → Option Value} {base : Heap} (T : Txt K mg w) : ∀ n : Nat,
    (∀ {fd : FuncData}, FnP K "apart" s_apart [] fd → FnOk P w K mg base CX0 (2 * n + 3) (He.ga K "apart") fd ps_apart (sp_apart n K)) ∧
    (∀ {fd : FuncData}, FnP K "is_maker" s_is_maker [] fd → FnOk P w K mg base CX0 (2 * n + 4) (He.ga K "is_maker") fd ps_is_maker (sp_is_maker n K))
  | 0 => by
    have no1 : ∀ {vs : List V} {H : Hp} {Q : VK} {E : XK}, sp_apart 0 K vs H Q E → False := fun h => by
      obtain ⟨_, _, _, _, _, ⟨h, _⟩, _⟩ := h
      exact absurd h (by decide)
    have no2 : ∀ {vs : List V} {H : Hp} {Q : VK} {E : XK}, sp_is_maker 0 K vs H Q E → False := fun h => by
      obtain ⟨_, _, _, _, _, _, ⟨h, _⟩, _⟩ := h
      exact absurd h (by decide)
    exact ⟨fun _ => ⟨fun _ _ _ _ h => (no1 h).elim, fun _ _ _ _ _ _ _ _ _ _ _ _ _ h => (no1 h).elim⟩, fun _ => ⟨fun _ _ _ _ h => (no2 h).elim, fun _ _ _ _ _ _ _ _ _ _ _ _ _ h => (no2 h).elim⟩⟩
  | n + 1 => by
    obtain ⟨_, h2⟩ := ok_both T n
    have h3 : ∀ {fd : FuncData}, FnP K "apart" s_apart [] fd → FnOk P w K mg base CX0 (2 * (n + 1) + 3) (He.ga K "apart") fd ps_apart (sp_apart (n + 1) K) := fun F => ok_apart T F h2
    exact ⟨h3, fun F => ok_is_maker T F h3⟩
theorem ok_apartZ {P : Program} {w : World} {K : PySem.W.Frag} {mg : Str → Option Value} {base : Heap} {fd : FuncData} (T : Txt K mg w) (F : FnP K "apart" s_apart [] fd) : FnOk P w K mg base CX0 51 (He.ga K "apart") fd ps_apart (sp_apart 24 K) := (ok_both T 24).1 F
theorem ok_is_makerZ {P : Program} {w : World} {K : PySem.W.Frag} {mg : Str → Option Value} {base : Heap} {fd : FuncData} (T : Txt K mg w) (F : FnP K "is_maker" s_is_maker [] fd) : FnOk P w K mg base CX0 52 (He.ga K "is_maker") fd ps_is_maker (sp_is_maker 24 K) := (ok_both T 24).2 F
theorem trn24 (x : V) : Trn 24 x := fun z _ => by omega
def nameV (x : V) : Bool := userV x || (apartV x).isSome
def sp_is_name (K : PySem.W.Frag) : Sp := fun vs H Q _ => ∃ (x : V), vs = [x] ∧ Vl H x ∧ Shrt x ∧ ∀ H', Same H H' → Q (.bl (nameV x)) H'
theorem ok_is_name {P : Program} {w : World} {K : PySem.W.Frag} {mg : Str → Option Value} {base : Heap} {fd : FuncData} (T : Txt K mg w) (F : FnP K "is_name" s_is_name [] fd) : FnOk P w K mg base CX0 52 (He.ga K "is_name") fd ps_is_name (sp_is_name K) := by
  obtain ⟨fd_is_user_name, F_is_user_name⟩ := T.d_is_user_name
  have G_is_user_name := ok_is_user_name (P := P) (w := w) (base := base) T F_is_user_name
  have k_is_user_name := F_is_user_name.kp
  have b_is_user_name := bi_is_user_name F_is_user_name
  obtain ⟨fd_apart, F_apart⟩ := T.d_apart
  have G_apart := ok_apartZ (P := P) (w := w) (base := base) T F_apart
  have k_apart := F_apart.kp
  have b_apart := bi_apart F_apart
  refine F.ok sc_is_name (fun vs H Q E h => ?len) (fun cdv A outer s H vs Q E hr h => ?body)
  case len => obtain ⟨x, rfl, hv, hs, k⟩ := h; rfl
  case body =>
  obtain ⟨x, rfl, hv, hs, k⟩ := h
  have hu := hu_of hr
  refine ⟨_, PSs.nox (pss_one (ps_ret (pe_or (pe_call G_is_user_name (hr.mono (by first | decide | omega)) rfl T.g_is_user_name k_is_user_name b_is_user_name .nil pass0 (pa_cons (pv 0) pa_nil)) (pe_one (pe_cmpR op_notN (pe_call G_apart (hr.mono (by first | decide | omega)) rfl T.g_apart k_apart b_apart .nil pass0 (pa_cons (pv 0) pa_nil)) pe_non (nomark _)))))), ?_⟩
  refine ⟨_, rfl, x, rfl, hv, hs, fun H1 S1 => ⟨_, rfl, ?_⟩⟩
  by_cases hu : userV x = true
  · rw [hu]
    have q := k H1 S1
    unfold nameV at q
    rw [hu] at q
    exact iteT q
  · rw [Bool.not_eq_true _ |>.mp hu]
    refine iteF ⟨_, rfl, x, rfl, hv.same S1, hs, trn24 x, ⟨by decide, by decide⟩, fun v H2 S2 R2 => ⟨rfl, ?_⟩⟩
    have q := k H2 (Same.trans' S1 S2)
    unfold nameV at q
    rw [Bool.not_eq_true _ |>.mp hu, Bool.false_or] at q
    generalize apartV x = ap at R2 q
    match ap, R2, q with
    | none, R2, q => cases R2; exact q
    | some (m, c, w), ⟨p, ev, g⟩, q => cases ev; exact q

/-! ### dicts whose keys are tuples, walked by items and by values -/
/-- a locked dict with tuple keys, seen as the model's object: its entries by number -/
theorem dt_locked {X : Cx} {pins : List (Addr × Obj)} {σ : L2.St} {H : Hp} {s : Shared} {d : Addr} {o : Obj} {kvs : List (List Key × V)} (I : Inv X pins σ H s) (at_ : H d = some (.frz o (.dT kvs))) :
    ∃ (es : Array DictEntry) (ep : Nat), (d == sysModules) = false ∧ o.data = .dict es ep ∧ s.heap.DictRaw d es ep ∧ es.size = kvs.length ∧
      ∀ {i : Nat} {row : List Key × V}, kvs[i]? = some row → ∃ (lt : i < es.size) (q : Addr), es[i].key = .ref q ∧ H q = some (.tup (row.1.map kV)) ∧ RelV row.2 es[i].val := by
  have ⟨lies, _, mod, xs, rel, ob, es, ep, there, exact_, data_, ents, _⟩ := I.hok d _ at_
  obtain rfl : o = ob := Option.some.inj (lies.symm.trans there)
  have size : es.size = kvs.length := (size_of_entries ents).trans (Paired.length rel).symm
  refine ⟨es, ep, mod, data_, ⟨o, there, exact_, data_⟩, size, fun {i row} e => ?_⟩
  obtain ⟨x, ex, e1, e2, e3⟩ := paired_get rel e
  have lt : i < es.size := size ▸ lt_at e
  have en := entry_at ents i
  rw [ex, Array.getElem?_eq_getElem lt] at en
  have en : es[i] = _ := Option.some.inj en
  exact ⟨lt, x.2.1, by rw [en]; rfl, e2, by rw [en]; exact e3⟩
def ItiT (d : Addr) (o : Obj) (kvs : List (List Key × V)) : It where
  go i H := H d = some (.frz o (.dT kvs)) ∧ i < kvs.length
  yld i H x H' := ∃ (T q : Addr) (row : List Key × V), kvs[i]? = some row ∧ x = .ref T ∧ H T = none ∧ H q = some (.tup (row.1.map kV)) ∧ H' = upd H T (.tup [.ref q, row.2])
  stop i H := H d = some (.frz o (.dT kvs)) ∧ kvs.length ≤ i
def ItvT (d : Addr) (o : Obj) (kvs : List (List Key × V)) : It where
  go i H := H d = some (.frz o (.dT kvs)) ∧ i < kvs.length
  yld i H x H' := H' = H ∧ ∃ row, kvs[i]? = some row ∧ x = row.2
  stop i H := H d = some (.frz o (.dT kvs)) ∧ kvs.length ≤ i
section
variable {P : Program} {w : World} {K : PySem.W.Frag} {d : Addr} {o : Obj} {es : Array DictEntry} {ep : Nat} {kvs : List (List Key × V)}
theorem fp_one {X : Cx} {H : Hp} {pins : List (Addr × Obj)} {it : Addr} (fp : ∀ b ∈ [it], FpOk X pins H b) : FpOk X pins H it := fp it List.mem_cons_self
theorem turn_itiT {elts : List Expr} {kk : Nat} {tpos : Pos} (it : Addr) (data_ : o.data = .dict es ep) : Turn P w K (.Tuple elts kk tpos) (ItiT d o kvs) [it] it (fun i h => ∃ a b, IsItemIter h it d i es.size ep a b) where
  mem := List.mem_cons_self
  obj := fun _ _ ⟨_, _, there⟩ b hb => by
    obtain rfl := List.mem_singleton.mp hb
    exact ⟨_, there, fun _ z => nomatch z⟩
  keep := fun _ _ _ ⟨a, b, there⟩ k => ⟨a, b, k it List.mem_cons_self _ there⟩
  item := fun X eP ew eK calm_ i pins s σ H E I fp st go_ => by
    subst eP ew eK
    obtain ⟨locked, lt0⟩ := go_
    obtain ⟨es', ep', mod, data2, raw, size, rows⟩ := dt_locked I locked
    obtain ⟨rfl, rfl⟩ : es' = es ∧ ep' = ep := by rw [data_] at data2; cases data2; exact ⟨rfl, rfl⟩
    obtain ⟨a, b, there⟩ := st
    have below := Heap.lt_size there
    obtain ⟨row, erow⟩ : ∃ row, kvs[i]? = some row := ⟨_, List.getElem?_eq_getElem lt0⟩
    obtain ⟨lt, q, ek, atq, rv⟩ := rows erow
    refine PySem.wpAny_pyNext_items_item_raw there raw lt fun h1 out pair size1 rest => ⟨_, rfl, PySem.wpAny_letOwnedTupleGo_items (s := { s with heap := h1 }) out fun h2 there2 same => ?_⟩
    have pair2 : h2.get? s.heap.objs.size = some { cls := .type "tuple", data := .seq #[es'[i].key, es'[i].val] } := (same.2 _ (Nat.ne_of_gt below).symm.symm).trans pair
    have fresh_ := I.hok.fresh (Nat.le_refl s.heap.objs.size)
    refine ⟨.ref s.heap.objs.size, upd H s.heap.objs.size (.tup [.ref q, row.2]), I.turnedNew (t' := s.toks) (ch := [it]) (fun c oc nc e => ?_) fp (Nat.le_refl _) ?_, rfl, ⟨_, q, row, erow, rfl, fresh_, atq, rfl⟩, ⟨_, _, there2⟩, fun c hc => ?_⟩
    · have nc : c ≠ it := fun z => nc (z ▸ List.mem_cons_self)
      exact (same.2 c nc).trans (rest c oc nc e)
    · exact ⟨by show 2 ≤ sizeLine; decide, [es'[i].key, es'[i].val], .cons ek (.cons rv .nil), _, pair2, rfl, _, rfl⟩
    · obtain rfl := List.mem_singleton.mp hc
      rw [upd_ne (Nat.ne_of_lt below)]
      exact (fp_one fp).1
  done := fun X eP ew eK calm_ i pins s σ H E I fp st stop_ => by
    subst eP ew eK
    obtain ⟨locked, ge0⟩ := stop_
    obtain ⟨es', ep', mod, data2, raw, size, rows⟩ := dt_locked I locked
    obtain ⟨rfl, rfl⟩ : es' = es ∧ ep' = ep := by rw [data_] at data2; cases data2; exact ⟨rfl, rfl⟩
    obtain ⟨a, b, there⟩ := st
    obtain ⟨f0, f1, f2, f3, f4, f5⟩ := fp_one fp
    exact PySem.wpAny_pyNext_items_end_raw (I.ok.hd calm_) there raw (size ▸ ge0) fun h1 rest => ⟨rfl, I.turned (t' := s.toks) rest f0 f1 f3 f4 f5⟩
  self := fun A i s Q E ⟨_, _, there⟩ h => PySem.W.kcp_self there h
theorem turn_itvT {tg : Expr} (it : Addr) (data_ : o.data = .dict es ep) : Turn P w K tg (ItvT d o kvs) [it] it (fun i h => h.IsValIter it d i es.size ep) where
  mem := List.mem_cons_self
  obj := fun _ _ ⟨ob, there, _, data1⟩ b hb => by
    obtain rfl := List.mem_singleton.mp hb
    exact ⟨ob, there, fun _ z => by rw [data1] at z; cases z⟩
  keep := fun _ _ _ st k => st.at fun ob there => k it List.mem_cons_self ob there
  item := fun X eP ew eK calm_ i pins s σ H E I fp st go_ => by
    subst eP ew eK
    obtain ⟨locked, lt0⟩ := go_
    obtain ⟨es', ep', mod, data2, raw, size, rows⟩ := dt_locked I locked
    obtain ⟨rfl, rfl⟩ : es' = es ∧ ep' = ep := by rw [data_] at data2; cases data2; exact ⟨rfl, rfl⟩
    obtain ⟨row, erow⟩ : ∃ row, kvs[i]? = some row := ⟨_, List.getElem?_eq_getElem lt0⟩
    obtain ⟨lt, q, ek, atq, rv⟩ := rows erow
    obtain ⟨f0, f1, f2, f3, f4, f5⟩ := fp_one fp
    refine PySem.wpAny_pyNext_values_item_raw st raw lt fun h1 st1 same => ?_
    obtain ⟨ob, there, cls_, data1⟩ := id st1
    exact ⟨_, rfl, go_of (s := { s with heap := h1 }) there cls_ data1 (by decide) ⟨row.2, H, I.turned (t' := s.toks) (fun c oc nc e => (same.2 c nc).trans e) f0 f1 f3 f4 f5, rv, ⟨rfl, row, erow, rfl⟩, st1, fun c hc => (fp c hc).1⟩⟩
  done := fun X eP ew eK calm_ i pins s σ H E I fp st stop_ => by
    subst eP ew eK
    obtain ⟨locked, ge0⟩ := stop_
    obtain ⟨es', ep', mod, data2, raw, size, rows⟩ := dt_locked I locked
    obtain ⟨rfl, rfl⟩ : es' = es ∧ ep' = ep := by rw [data_] at data2; cases data2; exact ⟨rfl, rfl⟩
    obtain ⟨f0, f1, f2, f3, f4, f5⟩ := fp_one fp
    exact PySem.wpAny_pyNext_values_end_raw (I.ok.hd calm_) st raw (size ▸ ge0) fun h1 rest => ⟨rfl, I.turned (t' := s.toks) rest f0 f1 f3 f4 f5⟩
  self := fun A i s Q E st h => wpAny_pyIter_valiter st h
end
def iItemsT (td : TE) : TI := fun σ H R => td σ H fun x H1 => ∃ d o kvs, x = .ref d ∧ H1 d = some (.frz o (.dT kvs)) ∧ R (ItiT d o kvs) H1
def iValsT (td : TE) : TI := fun σ H R => td σ H fun x H1 => ∃ d o kvs, x = .ref d ∧ H1 d = some (.frz o (.dT kvs)) ∧ R (ItvT d o kvs) H1
section
variable {X : Cx} {e : Expr} {td : TE} {apos cpos : Pos}
theorem raw_noDict {s : Shared} {d : Addr} {es : Array DictEntry} {ep : Nat} (raw : s.heap.DictRaw d es ep) : ∀ b, Value.ref d = .ref b → ∃ ob, s.heap.get? b = some ob ∧ ob.dict = none := fun b eb => by
  obtain ⟨ob, there, exact_, _⟩ := raw
  cases eb
  exact ⟨ob, there, exact_.2.1⟩
theorem pi_itemsT {elts : List Expr} {kk : Nat} {tpos : Pos} (he : PE X e td) (hbase : attributeBase e "items" X.env (eval e X.env) = eval e X.env := by rfl) (hline : (apos.endLine == cpos.line) = true := by rfl) :
    PI X (.Tuple elts kk tpos) (.Call (.Attribute e "items" apos) [] [] cpos) (iItemsT td) where
  run pins s σ H R I want := wpAny_Call_method (T := "dict") (id := "dict.items") hbase rfl hline PySem.F.plainAttrs_dict PySem.F.slot_dict_items PySem.F.type_dict_items <| thn (he.run pins s σ H _ I want) fun u s1 ⟨x, H1, I1, rx, d, o, kvs, ex, locked, rest⟩ => by
    subst ex; cases rx
    obtain ⟨es, ep, mod, data_, raw, size, _⟩ := dt_locked I1 locked
    refine ⟨raw.typeIs, raw_noDict raw, ?_⟩
    have I2 : Inv X pins σ H1 { s1 with heap := s1.heap.push { cls := .type "dict_items", data := .fields #[.ref d] } } := I1.kept (t' := s1.toks) fun b ob there => Heap.get?_push_of_some _ there
    have raw2 : (s1.heap.push { cls := .type "dict_items", data := .fields #[.ref d] }).DictRaw d es ep := raw.at fun ob there => Heap.get?_push_of_some _ there
    have walk_ : wpAny (model X.prog X.w) X.A (pyIter (.ref s1.heap.objs.size)) (PIE X pins σ (.Tuple elts kk tpos) R) X.xe { s1 with heap := s1.heap.push { cls := .type "dict_items", data := .fields #[.ref d] } } :=
      PySem.wpAny_pyIter_items_raw (d := d) ⟨_, Heap.get?_push_size _ rfl, rfl, rfl⟩ raw2 (pi_one (tk := s1.toks) I2 _ (turn_itiT _ data_) ⟨.none, .none, Heap.get?_push_size _ rfl⟩ rest)
    show wpAny _ _ (callWith cpos (.builtin "dict.items") [.ref d] [] []) _ X.xe s1
    exact method_meetsIn PySem.F.slot_dict_items PySem.F.entry_dict_items rfl (PySem.evalArgs_none ⟨rfl, raw.typeIs, PySem.F.args_dict_items_1 _, _, PySem.meets_dict_items_raw d mod, ⟨es, ep, raw⟩, walk_⟩)
theorem pi_valuesT {tg : Expr} (he : PE X e td) (hbase : attributeBase e "values" X.env (eval e X.env) = eval e X.env := by rfl) (hline : (apos.endLine == cpos.line) = true := by rfl) :
    PI X tg (.Call (.Attribute e "values" apos) [] [] cpos) (iValsT td) where
  run pins s σ H R I want := wpAny_Call_method (T := "dict") (id := "dict.values") hbase rfl hline PySem.F.plainAttrs_dict PySem.F.slot_dict_values PySem.F.type_dict_values <| thn (he.run pins s σ H _ I want) fun u s1 ⟨x, H1, I1, rx, d, o, kvs, ex, locked, rest⟩ => by
    subst ex; cases rx
    obtain ⟨es, ep, mod, data_, raw, size, _⟩ := dt_locked I1 locked
    refine ⟨raw.typeIs, raw_noDict raw, ?_⟩
    have I2 : Inv X pins σ H1 { s1 with heap := s1.heap.push { cls := .type "dict_values", data := .fields #[.ref d] } } := I1.kept (t' := s1.toks) fun b ob there => Heap.get?_push_of_some _ there
    have raw2 : (s1.heap.push { cls := .type "dict_values", data := .fields #[.ref d] }).DictRaw d es ep := raw.at fun ob there => Heap.get?_push_of_some _ there
    have walk_ : wpAny (model X.prog X.w) X.A (pyIter (.ref s1.heap.objs.size)) (PIE X pins σ tg R) X.xe { s1 with heap := s1.heap.push { cls := .type "dict_values", data := .fields #[.ref d] } } :=
      PySem.wpAny_pyIter_values_raw (d := d) ⟨_, Heap.get?_push_size _ rfl, rfl, rfl⟩ raw2 (pi_one (tk := s1.toks) I2 _ (turn_itvT _ data_) ⟨_, Heap.get?_push_size _ rfl, rfl, rfl⟩ rest)
    show wpAny _ _ (callWith cpos (.builtin "dict.values") [.ref d] [] []) _ X.xe s1
    exact method_meetsIn PySem.F.slot_dict_values PySem.F.entry_dict_values rfl (PySem.evalArgs_none ⟨rfl, raw.typeIs, PySem.F.args_dict_values_1 _, _, PySem.meets_dict_values_raw d mod, ⟨es, ep, raw⟩, walk_⟩)
end
theorem walk_itiT {d : Addr} {o : Obj} {kvs : List (List Key × V)} : Walk (ItiT d o kvs) kvs.length (fun H => H d = some (.frz o (.dT kvs))) (ItiT d o kvs).yld :=
  ⟨fun _ _ lt g => ⟨g, lt⟩, fun _ g => ⟨g, Nat.le_refl _⟩, fun _ _ _ _ _ _ y => y⟩
theorem walk_itvT {d : Addr} {o : Obj} {kvs : List (List Key × V)} : Walk (ItvT d o kvs) kvs.length (fun H => H d = some (.frz o (.dT kvs))) (ItvT d o kvs).yld :=
  ⟨fun _ _ lt g => ⟨g, lt⟩, fun _ g => ⟨g, Nat.le_refl _⟩, fun _ _ _ _ _ _ y => y⟩

/-! ### sorted and min of data that have a Lean type -/
section
open PySem.W
variable {X : Cx} {pins : List (Addr × Obj)} {σ : L2.St} {H : Hp} {s : Shared} {α : Type} [DecidableEq α] [DatumOrd α]
/-- the values vs stand for xs -/
abbrev DpA (K : PySem.W.Frag) (H : Hp) (vs : List V) (xs : List α) : Prop := DpAll K H vs (xs.map Datum.toD)
theorem dpA_held {vs : List V} {us : List Value} {xs : List α} (I : Inv X pins σ H s) (d : DpA X.K H vs xs) (r : Vals vs us) : HoldAll s.heap us xs := Dp.readsAll I _ _ _ d r
theorem dpA_len {K : PySem.W.Frag} {H : Hp} : ∀ {vs : List V} {xs : List α}, DpA K H vs xs → vs.length = xs.length
  | [], [], _ => rfl
  | [], _ :: _, d => nomatch d
  | _ :: _, [], d => nomatch d
  | _ :: _, _ :: _, d => match d with | .cons _ t => congrArg (· + 1) (dpA_len t)
theorem held_one {h : Heap} {v : Value} {x y : α} (a : Holds h v x) (b : Holds h v y) : x = y := by
  obtain ⟨_, ra⟩ := a
  obtain ⟨_, rb⟩ := b
  have one := (PySem.Reads.unique ra _ _ rb).1
  have q := Datum.eqv x y
  rw [one, Datum.eqv] at q
  exact of_decide_eq_true (q.symm.trans (decide_eq_true rfl))
def rMinD (K : PySem.W.Frag) (α : Type) [DecidableEq α] [DatumOrd α] : List V → Hp → VK → Prop := fun args H Q => ∃ (a : Addr) (vs : List V) (x : α) (xs : List α), args = [.ref a] ∧ SqL K H a vs ∧ DpA K H vs (x :: xs) ∧
  ∀ (i : Nat) (v : V), vs[i]? = some v → (x :: xs)[i]? = some (minOf x xs) → Q v H
theorem vals_ofArr {vs : List V} {its : List Value} (r : Vals vs its) {i : Nat} {u : Value} (e : its.toArray[i]? = some u) : ∃ v, vs[i]? = some v ∧ RelV v u := by
  rw [List.getElem?_toArray] at e
  induction r generalizing i with
  | nil => simp at e
  | cons h t more =>
    match i, e with
    | 0, e => exact ⟨_, rfl, Option.some.inj e ▸ h⟩
    | i + 1, e => exact more (by simpa using e)
theorem cr_minD (calm_ : X.calm = true) (hu : X.A.units + 64 < cLine) (deep : Datum.depth α ≤ 40) : CallR X (.builtin "min") (rMinD X.K α) := fun pins s σ H args us Q I r ⟨a, vs, x, xs, ea, at_, dp, told⟩ => by
  subst ea
  rw [Vals.ref1 r]
  have ⟨its, vals, lies, _⟩ := I.list at_
  have hold := dpA_held I dp vals
  refine min_list_datum (I.ok.hd calm_) lies.isList (by simpa using hold) (by omega) fun i u h' t eu hu' keep => ?_
  obtain ⟨v, ev, rv⟩ := vals_ofArr vals eu
  obtain ⟨y, ey, hy⟩ := hold.at (i := i) (by simpa using eu)
  have one := held_one (hy.keeps keep) hu'
  exact ⟨v, H, I.kept (t' := t) keep, rv, told i v ev (one ▸ ey)⟩
/-- min(xs, default=d) -/
def rMinDef (K : PySem.W.Frag) (α : Type) [DecidableEq α] [DatumOrd α] : List V → List V → Hp → VK → Prop := fun args kws H Q => ∃ (a : Addr) (vs : List V) (xs : List α) (d : V), args = [.ref a] ∧ kws = [d] ∧ SqL K H a vs ∧ DpA K H vs xs ∧
  (xs = [] → Q d H) ∧ ∀ (y : α) (ys : List α) (i : Nat) (v : V), xs = y :: ys → vs[i]? = some v → xs[i]? = some (minOf y ys) → Q v H
theorem cr_minDef (calm_ : X.calm = true) (hu : X.A.units + 64 < cLine) (deep : Datum.depth α ≤ 40) : CallRK X (.builtin "min") [Str.ofString "default"] (rMinDef X.K α) := fun pins s σ H args kws us ws Q I r rk ⟨a, vs, xs, d, ea, ek, at_, dp, none_, some_⟩ => by
  subst ea ek
  rw [Vals.ref1 r]
  obtain ⟨w', rfl, rd⟩ := rk.one
  have ⟨its, vals, lies, _⟩ := I.list at_
  have hold := dpA_held I dp vals
  refine min_list_datum_default (I.ok.hd calm_) lies.isList (by simpa using hold) (by omega) (fun e h' t keep => ⟨d, H, I.kept (t' := t) keep, rd, none_ e⟩) fun y ys i u h' t e eu hu' keep => ?_
  obtain ⟨v, ev, rv⟩ := vals_ofArr vals eu
  obtain ⟨z, ez, hz⟩ := hold.at (i := i) (by simpa using eu)
  have one := held_one (hz.keeps keep) hu'
  exact ⟨v, H, I.kept (t' := t) keep, rv, some_ y ys i v e ev (one ▸ ez)⟩
/-- in order -/
def leD (a b : α) : Bool := !DatumOrd.lt b a
def srtD (xs : List α) : List α := xs.mergeSort leD
theorem leD_eq : dataLe false (Datum.toD (α := α)) = leD := by
  funext a b
  show (!dataLt (Datum.toD b) (Datum.toD a)) = _
  rw [DatumOrd.lt_eq]; rfl
/-- the values put in order: each stands for what it stood for -/
def rSortD (K : PySem.W.Frag) (α : Type) [DecidableEq α] [DatumOrd α] : List V → Hp → VK → Prop := fun args H Q => ∃ (a : Addr) (vs : List V) (xs : List α), args = [.ref a] ∧ SqL K H a vs ∧ DpA K H vs xs ∧ W.Sortable (xs.map Datum.toD) ∧
  ∀ (p : Addr) (out : List V), H p = none → Paired (fun v x => (v, x) ∈ vs.zip xs) out (srtD xs) → Q (.ref p) (upd H p (.lst out))
theorem out_vals {T : V → α → Prop} {out : List Value} {ys : List α} (e : EachIs (fun u y => ∃ v, T v y ∧ RelV v u) out ys) : ∃ vs, Vals vs out ∧ Paired T vs ys := by
  induction e with
  | nil => exact ⟨[], .nil, .nil⟩
  | cons h _ more =>
    obtain ⟨v, tv, rv⟩ := h
    obtain ⟨vs, a, b⟩ := more
    exact ⟨v :: vs, .cons rv a, .cons tv b⟩
theorem zip_each {T : V → α → Prop} {vs : List V} {us : List Value} {xs : List α} (r : Vals vs us) (len : vs.length = xs.length) (h : ∀ p ∈ vs.zip xs, T p.1 p.2) : EachIs (fun u x => ∃ v, T v x ∧ RelV v u) us xs := by
  induction r generalizing xs with
  | nil =>
    cases xs with
    | nil => exact .nil
    | cons => simp at len
  | cons hr _ more =>
    cases xs with
    | nil => simp at len
    | cons x xs => exact .cons ⟨_, h (_, x) List.mem_cons_self, hr⟩ (more (by simpa using len) fun p hp => h p (List.mem_cons_of_mem _ hp))
theorem held_each {h : Heap} {us : List Value} {xs : List α} (hold : HoldAll h us xs) : EachIs (fun v b => ∃ as, Reads h v (Datum.toD b) as) us xs := have ⟨_, r⟩ := hold; readsAll_each Datum.toD r
theorem cr_sortD (hu : X.A.units + 64 < cLine) (deep : Datum.depth α ≤ 40) : CallR X (.builtin "sorted") (rSortD X.K α) := fun pins s σ H args us Q I r ⟨a, vs, xs, ea, at_, dp, sable, told⟩ => by
  subst ea
  rw [Vals.ref1 r]
  have ⟨its, vals, lies, big⟩ := I.list at_
  have len := dpA_len dp
  have hold := dpA_held I dp vals
  have l2 := hold.length
  refine sorted_data (enc := Datum.toD) lies.isList (zip_each (T := fun v x => (v, x) ∈ vs.zip xs) vals len fun p hp => hp) (held_each hold) (AllAlike.of DatumOrd.alike) sable (by omega) (fun b _ => by have := Datum.depth_le b; omega) fun out lo eo => ?_
  rw [leD_eq] at eo
  obtain ⟨ov, ro, po⟩ := out_vals eo
  obtain ⟨e', there⟩ := sortedAll_at s.heap its out.toArray
  have fresh_ : H (s.heap.objs.size + 1) = none := I.hok.fresh (Nat.le_succ _)
  refine ⟨.ref (s.heap.objs.size + 1), upd H (s.heap.objs.size + 1) (.lst ov), I.laid (t' := s.toks) (fun b u e => sortedAll_old e) (Nat.le_succ _) (show ObjOk X.prog X.w _ _ _ (.lst ov) from ⟨?_, out, e', ro, there⟩), rfl, told _ ov fresh_ po⟩
  rw [ro.length, lo]; omega
end

section
open PySem.W
/-- keys that are tuples of texts -/
abbrev Spot := Tup Str
def kk (t : Spot) : List Key := t.items.map Sum.inr
theorem kk_kV (t : Spot) : (kk t).map kV = t.items.map V.str := by
  unfold kk; rw [List.map_map]; rfl
theorem kk_inj {t u : Spot} (e : kk t = kk u) : t = u := by
  have e := congrArg (List.map kV) e
  rw [kk_kV, kk_kV] at e
  obtain ⟨xs⟩ := t
  obtain ⟨ys⟩ := u
  refine congrArg Tup.mk ?_
  have : ∀ {a b : List Str}, a.map V.str = b.map V.str → a = b := fun {a} => by
    induction a with
    | nil => intro b h; cases b with
      | nil => rfl
      | cons => simp at h
    | cons x a more => intro b h; cases b with
      | nil => simp at h
      | cons y b =>
        rw [List.map_cons, List.map_cons] at h
        injection h with h1 h2
        injection h1 with h1
        rw [h1, more h2]
  exact this e
/-- the tuple of texts t stands at a -/
def SpAt (H : Hp) (a : Addr) (t : Spot) : Prop := H a = some (.tup (t.items.map V.str))
theorem dp_strs {K : PySem.W.Frag} {H : Hp} : ∀ xs : List Str, DpAll K H (xs.map V.str) (xs.map Datum.toD)
  | [] => .nil
  | x :: xs => .cons (.str x) (dp_strs xs)
theorem SpAt.dp {K : PySem.W.Frag} {H : Hp} {a : Addr} {t : Spot} (h : SpAt H a t) : Dp K H (.ref a) (Datum.toD t) := .tup (SqT.of h) (dp_strs t.items)
end

/-! ### dicts with tuple keys: a display of one pair, update by it, pop, sorted -/
section
variable {X : Cx}
def tDispT (tk tv : TE) : TE := fun σ H Q => ∀ p, H p = none → tk σ (upd H p (.dT [])) fun x H1 => tv σ H1 fun y H2 => ∃ (q : Addr) (k : List Key), x = .ref q ∧ H2 p = some (.dT []) ∧ H2 q = some (.tup (k.map kV)) ∧ Q (.ref p) (upd H2 p (.dT [(k, y)]))
/-- what stands at d behind a change of the model's dict: the rows kvs, its keys where they were -/
theorem dt_new {P : Program} {w : World} {H : Hp} {h' : Heap} {d : Addr} {old kvs : List (List Key × V)} {xs : List (List Key × Addr × Value)} (at_ : H d = some (.dT old)) (few : kvs.length ≤ sizeLine) (mod : (d == sysModules) = false) (rel : KT H kvs xs) (lies : h'.DictOfH (tupleKind (mixKind P w)) d xs) :
    (∃ ob, h'.get? d = some ob) ∧ ObjOk P w (upd H d (.dT kvs)) h' d (.dT kvs) := by
  obtain ⟨ob, es, ep, there, exact_, data_, ents, _, once⟩ := lies
  refine ⟨⟨ob, there⟩, few, mod, xs, rel.keeps fun c ys ec => ?_, ob, es, ep, there, exact_, data_, ents, once⟩
  rw [upd_ne (ne_of ec at_ fun z => nomatch z)]
  exact ec
theorem pe_dispT {k v : Expr} {pos : Pos} {tk tv : TE} (hu : X.A.units + 1 < cLine) (hk : PE X k tk) (hv : PE X v tv) : PE X (.Dict [some k] [v] pos) (tDispT tk tv) where
  run pins s σ H Q I want := by
    have fresh_ := I.hok.fresh (Nat.le_refl s.heap.objs.size)
    have I1 := I.laid (a := s.heap.objs.size) (o := .dT []) (h' := s.heap.push { cls := .type "dict", data := .dict #[] }) (t' := s.toks) (fun _ _ e => Heap.get?_push_of_some _ e) (Nat.le_refl _) (dt_empty s.heap I.big)
    rw [arm_eval_Dict, zip_pairTrees [some k] [v] X.env pos rfl rfl, dictDisplay_pairs (pairTrees [some k] [v] X.env pos) (by simp [pairTrees]) (by simp [pairTrees])]
    refine wpAny_bind (wpAny_standAt (wpAny_bind (PySem.wpAny_subDictH (knd := tupleKind (mixKind X.prog X.w)) (Q := fun d s' => wpAny (model X.prog X.w) X.A (pure (Value.ref d)) (EP X pins σ Q) X.xe s') (show X.A.units < cLine by omega) (show 1 ≤ 15 by decide) ?_)))
    refine pairTrees_cons_walk (thn (hk.run pins _ σ _ _ I1 (want _ fresh_)) fun u s1 ⟨x, H1, I2, rx, w1⟩ => thn (hv.run pins s1 σ H1 _ I2 w1) fun u2 s2 ⟨y, H2, I3, ry, q, kk, ex, atp, atq, w2⟩ => pairTrees_nil_walk ?_)
    subst ex; cases rx
    obtain ⟨few, mod, xs, rel, lies⟩ := dt_of I3.hok atp
    cases rel
    refine ⟨[(kk, q, u2)], ⟨rfl, rfl, key_of I3.hok atq, trivial⟩, lies, fun h' t lies2 same => wpAny_pure ?_⟩
    obtain ⟨there, new⟩ := dt_new (kvs := [(kk, y)]) (xs := [(kk, q, u2)]) atp (by show 1 ≤ sizeLine; rw [sizeLine_eq]; decide) mod (.cons ⟨rfl, atq, ry⟩ .nil) lies2
    exact ⟨.ref s.heap.objs.size, _, d_write I3 (by rw [atp]; trivial) same there new, rfl, w2⟩
def rUpdT : V → List V → Hp → VK → Prop := fun x xs H Q => ∃ (a b : Addr) (kvs : List (List Key × V)) (k : List Key) (v : V), x = .ref a ∧ xs = [.ref b] ∧ a ≠ b ∧ H a = some (.dT kvs) ∧ H b = some (.dT [(k, v)]) ∧ kvs.length < sizeLine ∧ Q .non (upd H a (.dT (putK kvs k v)))
theorem mt_updT (hu : X.A.units + 1 < cLine) : MtR X "dict.update" rUpdT := fun pins s σ H x xs v us Q I rx rxs ⟨a, b, kvs, k, y, ex, exs, apart_, at1, at2, few, told⟩ => by
  subst ex exs; cases rx
  rw [Vals.ref1 rxs]
  obtain ⟨_, mod1, xs1, rel1, lies1⟩ := dt_of I.hok at1
  obtain ⟨_, mod2, xs2, rel2, lies2⟩ := dt_of I.hok at2
  cases rel2 with
  | @cons _ row _ rows hrow none_ =>
    cases none_
    obtain ⟨e1, atq, ry⟩ := hrow
    have tup : s.TypeIs (.ref row.2.1) "tuple" := by
      obtain ⟨ob, _, _, there, cls_, _⟩ := key_of (P := X.prog) (w := X.w) I.hok atq
      exact ⟨ob, there, cls_⟩
    have l1 : kvs.length = xs1.length := Paired.length rel1
    refine PySem.call_update_dictH hu apart_ mod2 lies1 lies2 (.inr ⟨fun z hz => by rw [List.mem_singleton.mp hz]; exact tup, List.nodup_cons.mpr ⟨List.not_mem_nil, List.nodup_nil⟩⟩) (by show xs1.length + 1 ≤ _; omega) fun h' new1 _ same => ?_
    have rel3 : KT H (putK kvs k y) (storedH xs1 row.1 row.2.1 row.2.2) := e1 ▸ rel1.put k atq ry
    obtain ⟨there, new⟩ := dt_new at1 (by have := length_putK kvs k y; omega) mod1 rel3 new1
    exact ⟨.non, _, d_write (t' := s.toks) I (by rw [at1]; trivial) same there new, rfl, told⟩
def rPop1T : V → List V → Hp → VK → Prop := fun x xs H Q => ∃ (a q : Addr) (kvs : List (List Key × V)) (k : List Key) (v : V), x = .ref a ∧ xs = [.ref q] ∧ H a = some (.dT kvs) ∧ H q = some (.tup (k.map kV)) ∧ valV kvs k = some v ∧ Q v (upd H a (.dT (dropK kvs k)))
theorem kt_without {H : Hp} (k : List Key) {kvs : List (List Key × V)} {xs : List (List Key × Addr × Value)} (rel : KT H kvs xs) : KT H (dropK kvs k) (withoutH xs k) := by
  unfold dropK withoutH
  induction rel with
  | nil => exact .nil
  | cons hrow t more =>
    rw [List.filter_cons, List.filter_cons, hrow.1]
    split
    · exact .cons hrow more
    · exact more
theorem mt_pop1T (hu : X.A.units + 1 < cLine) : MtR X "dict.pop" rPop1T := fun pins s σ H x xs v us Q I rx rxs ⟨a, q, kvs, k, y, ex, exs, at_, atq, val_, told⟩ => by
  subst ex exs; cases rx
  rw [Vals.ref1 rxs]
  obtain ⟨few, mod, xs1, rel, lies⟩ := dt_of I.hok at_
  obtain ⟨u, eu, ru⟩ := RelO.some_of (v := y) (o := (atKey xs1 k).map (·.2)) (by rw [← val_]; exact rel.val k)
  obtain ⟨row, erow, rfl⟩ := Option.map_eq_some_iff.mp eu
  have l1 : kvs.length = xs1.length := Paired.length rel
  refine call_pop_heap (more := []) (.inl rfl) (PySem.F.args_dict_pop_2 _ _) (tupleKind_room_in1 hu) (key_of I.hok atq) mod lies erow (fun h' lies2 same => ?_) (by omega)
  obtain ⟨there, new⟩ := dt_new at_ (Nat.le_trans (dropK_le kvs k) few) mod (kt_without k rel) lies2
  exact ⟨y, _, d_write (t' := _) I (by rw [at_]; trivial) same there new, ru, told⟩
end
section
open PySem.W
variable {X : Cx}
def rSortT : List V → Hp → VK → Prop := fun args H Q => ∃ (d : Addr) (kvs : List (List Key × V)) (ks : List Spot), args = [.ref d] ∧ H d = some (.dT kvs) ∧ kvs.map (·.1) = ks.map kk ∧ (∀ k ∈ ks, k.items ≠ []) ∧
  ∀ (p : Addr) (out : List V), H p = none → Paired (fun v k => ∃ q, v = .ref q ∧ SpAt H q k) out (srtD ks) → Q (.ref p) (upd H p (.lst out))
theorem spots_each {X : Cx} {pins : List (Addr × Obj)} {σ : L2.St} {H : Hp} {s : Shared} (I : Inv X pins σ H s) : ∀ {us : List Value} {ks : List Spot}, us.length = ks.length → (∀ (i : Nat) u k, us[i]? = some u → ks[i]? = some k → ∃ q, u = .ref q ∧ SpAt H q k) →
    EachIs (fun u k => ∃ v, (∃ q, v = V.ref q ∧ SpAt H q k) ∧ RelV v u) us ks ∧ HoldAll s.heap us ks
  | [], [], _, _ => ⟨.nil, HoldAll.nil⟩
  | [], _ :: _, l, _ => nomatch l
  | _ :: _, [], l, _ => nomatch l
  | u :: us, k :: ks, l, h => by
    obtain ⟨a, b⟩ := spots_each I (us := us) (ks := ks) (by simpa using l) fun i u k eu ek => h (i + 1) u k (by simpa using eu) (by simpa using ek)
    obtain ⟨q, rfl, at_⟩ := h 0 u k rfl rfl
    exact ⟨.cons ⟨.ref q, ⟨q, rfl, at_⟩, rfl⟩ a, HoldAll.cons (Dp.reads I _ _ _ at_.dp rfl) b⟩
theorem cr_sortT (calm_ : X.calm = true) (hu : X.A.units + 64 < cLine) : CallR X (.builtin "sorted") rSortT := fun pins s σ H args us Q I r ⟨d, kvs, ks, ea, at_, keys_, full, told⟩ => by
  subst ea
  rw [Vals.ref1 r]
  obtain ⟨few, mod, xs1, rel, lies⟩ := dt_of I.hok at_
  obtain ⟨ob, es, ep, there, exact_, data_, ents, _, once⟩ := id lies
  have l1 : kvs.length = xs1.length := Paired.length rel
  have l2 : es.size = xs1.length := size_of_entries ents
  have l3 : kvs.length = ks.length := by have := congrArg List.length keys_; simpa using this
  refine Calls.call_function_entry kind_sorted plain_sorted entry_sorted (args_sorted1 _) ?_
  unfold Builtin.«sorted»
  refine wpAny_bind (m := checkCount "sorted" 1 1 _) (wpAny_pure (wpAny_bind (PySem.W.kdu_collect (A := X.A.in1) (PySem.KdlSrc.rawDict (es := es) (ep := ep) mod) (I.ok.hd calm_) ⟨ob, there, exact_, data_⟩ (by omega) fun h1 t1 acc keep1 items => ?_)))
  have I1 : Inv X pins σ H { s with heap := h1, toks := t1 } := I.kept keep1
  have la : acc.toList.length = ks.length := by rw [Array.length_toList, items.1]; omega
  obtain ⟨each_, hold⟩ := spots_each I1 (us := acc.toList) (ks := ks) la fun i u k eu ek => by
    obtain ⟨lt, ev⟩ := items.2 i u (by rw [← Array.getElem?_toList]; exact eu)
    have lt2 : i < kvs.length := by omega
    obtain ⟨x, ex, e1, e2, _⟩ := paired_get rel (List.getElem?_eq_getElem lt2)
    have en := entry_at ents i
    rw [ex, Array.getElem?_eq_getElem lt] at en
    have en : es[i] = _ := Option.some.inj en
    have ek2 : (kvs.map (·.1))[i]? = some (kk k) := by rw [keys_, List.getElem?_map, ek]; rfl
    rw [List.getElem?_map, List.getElem?_eq_getElem lt2] at ek2
    have ek2 : (kvs[i]).1 = kk k := Option.some.inj ek2
    rw [ek2, kk_kV] at e2
    exact ⟨x.2.1, by rw [ev, en]; rfl, e2⟩
  have size1 : acc.toList.length ≤ sizeLine := by omega
  refine wpAny_bind (wpAny_newList ?_ size1)
  have there1 : (h1.push (seqObj "list" acc.toList.toArray 0)).get? h1.objs.size = some (seqObj "list" acc.toList.toArray 0) := Heap.get?_push_size _ rfl
  show wpAny _ _ _ _ _ { s with heap := h1.push (seqObj "list" acc.toList.toArray 0), toks := t1 }
  have old : ∀ b o, h1.get? b = some o → (h1.push (seqObj "list" acc.toList.toArray 0)).get? b = some o := fun b o e => Heap.get?_push_of_some _ e
  have ne1 : ∀ b o, h1.get? b = some o → b ≠ h1.objs.size := fun b o e => Nat.ne_of_lt (Heap.lt_size e)
  generalize h1.push (seqObj "list" acc.toList.toArray 0) = h2 at there1 old ⊢
  have hold2 : HoldAll (sortingHeap h2 h1.objs.size acc.toList) acc.toList ks := hold.keeps fun b o e => sortingHeap_old (ne1 b o e) (old b o e)
  have each2 := held_each hold2
  have alike_ : AllAlike (ks.map Datum.toD) := AllAlike.of DatumOrd.alike
  have sable : W.Sortable (ks.map Datum.toD) := .inl fun e he => by
    obtain ⟨k, hk, rfl⟩ := List.mem_map.mp he
    obtain ⟨items⟩ := k
    cases items with
    | nil => exact absurd rfl (full _ hk)
    | cons x r => exact ⟨_, _, rfl⟩
  refine wpAny_bind (wpAny_holding (wpAny_call_entry slot_list_sort ⟨_, there1, rfl⟩ entry_list_sort (list_sort_vals (s := { s with heap := h2, toks := t1 }) there1 (SortsAt.data (s := { s with heap := sortingHeap h2 h1.objs.size acc.toList, toks := t1 }) (ds := ks.map Datum.toD) (each_map (R := fun v d => ∃ as, Reads (sortingHeap h2 h1.objs.size acc.toList) v d as) Datum.toD each2) alike_ sable fun e he => ?_) size1 ⟨.none, rfl, ?_⟩) (args_list_sort _)))
  · obtain ⟨k, _, rfl⟩ := List.mem_map.mp he
    have := Datum.depth_le k
    have dep : Datum.depth Spot = 1 := rfl
    show X.A.units + 2 + _ < _
    omega
  · have eo := sortVals_data (R := fun u k => ∃ v, (∃ q, v = V.ref q ∧ SpAt H q k) ∧ RelV v u) false each_ each2 alike_
    rw [leD_eq] at eo
    obtain ⟨ov, ro, po⟩ := out_vals eo
    have lo := sortVals_length (κ := dataKind (sortingHeap h2 h1.objs.size acc.toList) (ks.map Datum.toD)) (ks := acc.toList) (vs := acc.toList) false rfl
    obtain ⟨e', there2⟩ := sortedHeap_at (vs := acc.toList) (out := (sortVals (dataKind (sortingHeap h2 h1.objs.size acc.toList) (ks.map Datum.toD)) false acc.toList acc.toList).toArray) there1
    have fresh_ : H h1.objs.size = none := I1.hok.fresh (Nat.le_refl _)
    refine wpAny_pure ⟨_, rfl, .ref h1.objs.size, upd H h1.objs.size (.lst ov), I1.laid (t' := t1) (fun b u e => (sortedHeap_old (ne1 b u e) (Heap.lt_size (old b u e))).trans (old b u e)) (Nat.le_refl _) (show ObjOk X.prog X.w _ _ _ (.lst ov) from ⟨?_, _, e', ro, there2⟩), rfl, told _ ov fresh_ po⟩
    rw [ro.length, lo]; exact size1
end

/-! ### a dict with tuple keys against {} -/
section
variable {P : Program} {w : World} {A : Around} {E : Value → Shared → Prop} {s : Shared} {a b : Addr} {es : Array DictEntry} {o1 o2 : Obj} {ep ep' : Nat}
/-- dict.__eq__ of a dict and one without rows: whether the first has none -/
theorem eq_none {R : PySem.Fin → Shared → Prop} (m1 : (a == sysModules) = false) (m2 : (b == sysModules) = false) (t1 : s.heap.get? a = some o1) (x1 : o1.ExactDict) (d1 : o1.data = .dict es ep) (t2 : s.heap.get? b = some o2) (x2 : o2.ExactDict) (d2 : o2.data = .dict #[] ep')
    (told : R (.done (.ret (.bool es.isEmpty))) s) : wpAny (model P w) A (Builtin.«dict.__eq__» ⟨[.ref a, .ref b], []⟩) R E s := by
  have n1 : s.TypeIs (.ref a) "dict" := ⟨o1, t1, x1.1⟩
  have n2 : s.TypeIs (.ref b) "dict" := ⟨o2, t2, x2.1⟩
  have c3 := PySem.F.sub_dict_dict
  delta Builtin.«dict.__eq__» Builtin.Dict.dictSlotArgs Builtin.Dict.samePairs Builtin.Dict.showsAll
  refine wpAny_bind (wpAny_bind (wpAny_notOrdered_dict n1 ?_))
  wp_walk using wpAny_dictEntries t1 d1, wpAny_dictEntries t2 d2
  cases z : es.isEmpty with
  | true =>
    rw [z] at told
    obtain rfl : es = #[] := by simpa using z
    rw [if_neg (by decide)]
    simp only [Std.Legacy.Range.forIn_eq_forIn_range']
    wp_walk using wpAny_dictEpoch t1 d1
    exact told
  | false =>
    rw [z] at told
    have full : (es.size != (#[] : Array DictEntry).size) = true := by simpa [Array.isEmpty] using z
    rw [full]
    wp_walk
    exact told
end
def rEmptyT : R2 := fun x y H Q => ∃ (a b : Addr) (kvs : List (List Key × V)), x = .ref a ∧ y = .ref b ∧ H a = some (.dT kvs) ∧ H b = some (.dK []) ∧ Q (.bl kvs.isEmpty) H
theorem op_emptyT {X : Cx} (hu : X.A.units + 1 < cLine) : OpR X (compareOp .Eq) rEmptyT := fun pins s σ H x y v u Q I rx ry ⟨a, b, kvs, ex, ey, at1, at2, told⟩ => by
  subst ex ey; cases rx; cases ry
  obtain ⟨_, m1, xs1, rel1, o1, es1, ep1, t1, x1, d1, n1, _⟩ := dt_of I.hok at1
  obtain ⟨_, m2, vs2, rel2, o2, es2, ep2, t2, x2, d2, k2, n2, _⟩ := dk_of I.hok at2
  cases rel2
  have l1 : es1.size = kvs.length := (size_of_entries n1).trans (Paired.length rel1).symm
  have l2 : es2 = #[] := by
    have := n2.length
    exact Array.eq_empty_of_size_eq_zero (by simpa using this)
  subst l2
  have e : es1.isEmpty = kvs.isEmpty := by
    rw [Bool.eq_iff_iff, List.isEmpty_iff_length_eq_zero, ← l1]
    simp [Array.isEmpty]
  have n1 : s.TypeIs (.ref a) "dict" := ⟨o1, t1, x1.1⟩
  exact wpAny_richCompare_same_room (op := .Eq) n1 ⟨o2, t2, x2.1⟩ PySem.F.slot_dict_eq (wpAny_call_entry PySem.F.slot_dict_eq n1 PySem.F.entry_dict_eq (eq_none m1 m2 t1 x1 d1 t2 x2 d2 ⟨_, rfl, (fun z => nomatch z), .bl _, H, I, rfl, e ▸ told⟩) (PySem.F.args_dict_eq_2 _ _)) (by omega)

/-! ### tables by spots, in Lean and in the heap -/
section
open PySem.W
variable {α : Type}
def getS (es : List (Spot × α)) (k : Spot) : Option α := (es.find? fun e => decide (e.1 = k)).map (·.2)
def putS (es : List (Spot × α)) (k : Spot) (a : α) : List (Spot × α) := if (getS es k).isSome = true then es.map (fun e => if e.1 = k then (e.1, a) else e) else es ++ [(k, a)]
def dropS (es : List (Spot × α)) (k : Spot) : List (Spot × α) := es.filter fun e => decide (e.1 ≠ k)
theorem getS_pos {e : Spot × α} {r : List (Spot × α)} {k : Spot} (h : e.1 = k) : getS (e :: r) k = some e.2 := by simp [getS, h]
theorem getS_neg {e : Spot × α} {r : List (Spot × α)} {k : Spot} (h : ¬ e.1 = k) : getS (e :: r) k = getS r k := by simp [getS, h]
theorem getS_mem : ∀ {es : List (Spot × α)} {k : Spot} {a : α}, getS es k = some a → (k, a) ∈ es
  | [], _, _, h => nomatch h
  | e :: r, k, a, h => by
    by_cases q : e.1 = k
    · rw [getS_pos q] at h
      obtain ⟨k', a'⟩ := e
      cases q; cases h
      exact List.mem_cons_self
    · rw [getS_neg q] at h
      exact List.mem_cons_of_mem _ (getS_mem h)
theorem getS_none : ∀ {es : List (Spot × α)} {k : Spot}, getS es k = none ↔ k ∉ es.map (·.1)
  | [], k => by simp [getS]
  | e :: r, k => by
    by_cases q : e.1 = k
    · rw [getS_pos q]; simp [q]
    · rw [getS_neg q, getS_none, List.map_cons, List.mem_cons, not_or]
      exact ⟨fun h => ⟨fun z => q z.symm, h⟩, fun h => h.2⟩
theorem getS_of : ∀ {es : List (Spot × α)} {k : Spot} {a : α}, (es.map (·.1)).Nodup → (k, a) ∈ es → getS es k = some a
  | [], _, _, _, h => nomatch h
  | e :: r, k, a, nd, h => by
    rw [List.map_cons, List.nodup_cons] at nd
    rcases List.mem_cons.mp h with z | z
    · rw [← z]; exact getS_pos rfl
    · rw [getS_neg fun q => nd.1 (by rw [q]; exact List.mem_map_of_mem z)]
      exact getS_of nd.2 z
theorem getS_some {es : List (Spot × α)} {k : Spot} (h : k ∈ es.map (·.1)) : ∃ a, getS es k = some a := by
  cases e : getS es k with
  | none => exact absurd h (getS_none.mp e)
  | some a => exact ⟨a, rfl⟩
theorem putS_keys {es : List (Spot × α)} {k : Spot} {a : α} : (putS es k a).map (·.1) = if k ∈ es.map (·.1) then es.map (·.1) else es.map (·.1) ++ [k] := by
  unfold putS
  by_cases h : k ∈ es.map (·.1)
  · obtain ⟨b, hb⟩ := getS_some h
    rw [if_pos (by rw [hb]; rfl), if_pos h, List.map_map]
    refine List.map_congr_left fun e _ => ?_
    show (if e.1 = k then (e.1, a) else e).1 = e.1
    split <;> rfl
  · rw [if_neg (by rw [getS_none.mpr h]; exact Bool.false_ne_true), if_neg h, List.map_append]; rfl
theorem putS_nodup {es : List (Spot × α)} {k : Spot} {a : α} (h : (es.map (·.1)).Nodup) : ((putS es k a).map (·.1)).Nodup := by
  rw [putS_keys]
  split
  · exact h
  · rename_i q
    rw [List.nodup_append]
    exact ⟨h, List.nodup_cons.mpr ⟨List.not_mem_nil, List.nodup_nil⟩, fun x hx y hy => by rw [List.mem_singleton.mp hy]; exact fun z => q (z ▸ hx)⟩
theorem dropS_nodup {es : List (Spot × α)} {k : Spot} (h : (es.map (·.1)).Nodup) : ((dropS es k).map (·.1)).Nodup := h.sublist (List.Sublist.map _ (List.filter_sublist ..))
theorem getS_put {es : List (Spot × α)} {k j : Spot} {a : α} : getS (putS es k a) j = if j = k then some a else getS es j := by
  unfold putS
  by_cases h : (getS es k).isSome = true
  · rw [if_pos h]
    induction es with
    | nil => cases h
    | cons e r more =>
      rw [List.map_cons]
      by_cases q : e.1 = k
      · rw [if_pos q]
        by_cases z : j = k
        · rw [if_pos z, getS_pos (by show e.1 = j; rw [q, z])]
        · rw [if_neg z, getS_neg (by show ¬ e.1 = j; rw [q]; exact fun y => z y.symm), getS_neg (by rw [q]; exact fun y => z y.symm)]
          clear more h
          induction r with
          | nil => rfl
          | cons f r more =>
            rw [List.map_cons]
            by_cases y : f.1 = k
            · rw [if_pos y, getS_neg (by show ¬ f.1 = j; rw [y]; exact fun x => z x.symm), getS_neg (by rw [y]; exact fun x => z x.symm), more]
            · rw [if_neg y]
              by_cases x : f.1 = j
              · rw [getS_pos x, getS_pos x]
              · rw [getS_neg x, getS_neg x, more]
      · rw [if_neg q]
        rw [getS_neg q] at h
        by_cases z : e.1 = j
        · rw [getS_pos z, getS_pos z, if_neg (by rw [← z]; exact q)]
        · rw [getS_neg z, getS_neg z, more h]
  · rw [if_neg h]
    have hn : getS es k = none := by simpa using h
    clear h
    induction es with
    | nil =>
      by_cases z : j = k
      · rw [if_pos z]; exact getS_pos z.symm
      · rw [if_neg z]; exact getS_neg fun y => z y.symm
    | cons e r more =>
      have q : ¬ e.1 = k := fun q => by rw [getS_pos q] at hn; cases hn
      rw [getS_neg q] at hn
      rw [List.cons_append]
      by_cases z : e.1 = j
      · rw [getS_pos z, getS_pos z, if_neg (by rw [← z]; exact q)]
      · rw [getS_neg z, getS_neg z, more hn]
theorem getS_drop {es : List (Spot × α)} {k j : Spot} : getS (dropS es k) j = if j = k then none else getS es j := by
  unfold dropS
  induction es with
  | nil => simp [getS]
  | cons e r more =>
    by_cases q : e.1 = k
    · rw [List.filter_cons_of_neg (by simp [q]), more]
      by_cases z : j = k
      · rw [if_pos z, if_pos z]
      · rw [if_neg z, if_neg z, getS_neg (by rw [q]; exact fun y => z y.symm)]
    · rw [List.filter_cons_of_pos (by simp [q])]
      by_cases z : e.1 = j
      · rw [getS_pos z, getS_pos z, if_neg (by rw [← z]; exact q)]
      · rw [getS_neg z, getS_neg z, more]
theorem dropS_none {es : List (Spot × α)} {k : Spot} (h : getS es k = none) : dropS es k = es := by
  refine List.filter_eq_self.mpr fun e he => ?_
  have := getS_none.mp h
  exact decide_eq_true fun z => this (z ▸ List.mem_map_of_mem he)
theorem dropS_mem {es : List (Spot × α)} {k : Spot} {e : Spot × α} : e ∈ dropS es k ↔ e ∈ es ∧ e.1 ≠ k := by
  unfold dropS; rw [List.mem_filter, decide_eq_true_iff]
theorem putS_len (es : List (Spot × α)) (k : Spot) (a : α) : (putS es k a).length ≤ es.length + 1 := by
  unfold putS; split
  · rw [List.length_map]; omega
  · rw [List.length_append]; exact Nat.le_refl _
theorem dropS_len (es : List (Spot × α)) (k : Spot) : (dropS es k).length ≤ es.length := List.length_filter_le _ _
/-- rows of a dict of the heap that stand for es -/
def Rows (R : V → α → Prop) (kvs : List (List Key × V)) (es : List (Spot × α)) : Prop := Paired (fun p e => p.1 = kk e.1 ∧ R p.2 e.2) kvs es
variable {R : V → α → Prop} {kvs : List (List Key × V)} {es : List (Spot × α)}
theorem Rows.get (r : Rows R kvs es) (k : Spot) : (getS es k = none ∧ valV kvs (kk k) = none) ∨ ∃ a v, getS es k = some a ∧ valV kvs (kk k) = some v ∧ R v a := by
  unfold Rows at r
  induction r with
  | nil => exact .inl ⟨rfl, rfl⟩
  | @cons p e ps es h t more =>
    obtain ⟨h1, h2⟩ := h
    by_cases q : e.1 = k
    · exact .inr ⟨e.2, p.2, getS_pos q, valV_pos (by rw [h1, q]), h2⟩
    · have q2 : ¬ p.1 = kk k := fun z => q (kk_inj (h1.symm.trans z))
      rw [getS_neg q, valV_neg q2]; exact more
theorem Rows.put (r : Rows R kvs es) (k : Spot) {v : V} {a : α} (h : R v a) : Rows R (putK kvs (kk k) v) (putS es k a) := by
  unfold putK putS
  have same_ : (kvs.any fun kv => decide (kv.1 = kk k)) = (getS es k).isSome := by
    rw [valV_any]
    rcases r.get k with ⟨a, b⟩ | ⟨a, v, e1, e2, _⟩
    · rw [a, b]; rfl
    · rw [e1, e2]; rfl
  rw [same_]
  unfold Rows at r ⊢
  split
  · clear same_
    rename_i x; clear x
    induction r with
    | nil => exact .nil
    | @cons p e ps es hr t more =>
      obtain ⟨h1, h2⟩ := hr
      rw [List.map_cons, List.map_cons]
      refine .cons ?_ more
      by_cases q : e.1 = k
      · rw [if_pos q, if_pos (by rw [h1, q])]; exact ⟨h1, h⟩
      · rw [if_neg q, if_neg (fun z => q (kk_inj (h1.symm.trans z)))]; exact ⟨h1, h2⟩
  · exact Paired.snoc r ⟨rfl, h⟩
theorem Rows.drop (r : Rows R kvs es) (k : Spot) : Rows R (dropK kvs (kk k)) (dropS es k) := by
  unfold Rows at r ⊢
  unfold dropK dropS
  induction r with
  | nil => exact .nil
  | @cons p e ps es hr t more =>
    obtain ⟨h1, h2⟩ := hr
    by_cases q : e.1 = k
    · have a : p.1 = kk k := by rw [h1, q]
      rw [List.filter_cons_of_neg (by simp [a]), List.filter_cons_of_neg (by simp [q])]; exact more
    · have a : ¬ p.1 = kk k := fun z => q (kk_inj (h1.symm.trans z))
      rw [List.filter_cons_of_pos (by simp [a]), List.filter_cons_of_pos (by simp [q])]
      exact .cons ⟨h1, h2⟩ more
theorem Rows.length (r : Rows R kvs es) : kvs.length = es.length := Paired.length r
theorem Rows.mono {R' : V → α → Prop} (r : Rows R kvs es) (h : ∀ v a, R v a → R' v a) : Rows R' kvs es := Paired.mono (fun _ _ ⟨a, b⟩ => ⟨a, h _ _ b⟩) r
theorem Rows.at (r : Rows R kvs es) {i : Nat} {row : List Key × V} (e : kvs[i]? = some row) : ∃ x, es[i]? = some x ∧ row.1 = kk x.1 ∧ R row.2 x.2 := by
  obtain ⟨x, ex, h⟩ := paired_get r e
  exact ⟨x, ex, h⟩
theorem Rows.keys (r : Rows R kvs es) : kvs.map (·.1) = (es.map (·.1)).map kk := by
  unfold Rows at r
  induction r with
  | nil => rfl
  | cons h t more => rw [List.map_cons, List.map_cons, List.map_cons, more, h.1]
end
/-- the dict at d holds es -/
def TabAt {α : Type} (H : Hp) (d : Addr) (R : V → α → Prop) (es : List (Spot × α)) : Prop := ∃ kvs, H d = some (.dT kvs) ∧ Rows R kvs es

/-! ### a queue -/
section
open PySem.W
structure QS where
  longest : Int
  ents : List (Spot × (Int × Int))
  taken : List (Spot × Option Int)
  delays : List (Spot × Int)
  count : Int
def QS.new (m : Int) : QS := ⟨m, [], [], [], 0⟩
def QS.bump (s : QS) (k : Spot) (t : Int) : QS := { s with count := s.count + 1, ents := putS s.ents k (t, s.count + 1) }
def QS.put (s : QS) (k : Spot) (t : Int) : QS := match getS s.ents k with
  | some (t0, _) => if t < t0 then s.bump k t else s
  | none => s.bump k t
def minPy (m n : Int) : Int := if n < m then n else m
def QS.add (s : QS) (k : Spot) (t : Int) : QS := match getS s.taken k with
  | some (some u) => { s with taken := putS s.taken k (some (minPy u t)) }
  | some none => { s with taken := putS s.taken k (some t) }
  | none => s.put k t
abbrev Row3 := (Int × Int) × Spot
def rowsOf (es : List (Spot × (Int × Int))) : List Row3 := es.map fun e => (e.2, e.1)
def QS.due (s : QS) (c : Int) : List Row3 := rowsOf (s.ents.filter fun e => decide (e.2.1 ≤ c))
def QS.out (s : QS) (k : Spot) : QS := { s with ents := dropS s.ents k, taken := putS s.taken k none }
def QS.first (s : QS) (c : Int) : Option Spot := match s.due c with
  | [] => none
  | x :: xs => some (minOf x xs).2
def QS.take (s : QS) (c : Int) : QS := match s.first c with
  | none => s
  | some k => s.out k
def QS.done (s : QS) (k : Spot) : QS := match getS s.taken k with
  | some (some t) => { s with taken := dropS s.taken k }.put k t
  | _ => { s with taken := dropS s.taken k }
def QS.delay (s : QS) (k : Spot) : Int := (getS s.delays k).getD 1
def QS.slow (s : QS) (k : Spot) : QS := { s with delays := putS s.delays k (minPy (2 * s.delay k) s.longest) }
def QS.retry (s : QS) (k : Spot) (c : Int) : QS := ((s.add k (c + s.delay k)).slow k).done k
def QS.forget (s : QS) (k : Spot) : QS := { s with delays := dropS s.delays k }
def QS.waiting (s : QS) : List Row3 := srtD (rowsOf s.ents)
def QS.working (s : QS) : List Spot := srtD (s.taken.map (·.1))
/-- where a queue and its dicts stand -/
structure QA where
  q : Addr
  dx : Addr
  e : Addr
  t : Addr
  d : Addr
def qF (A : QA) (l c : Int) : List (Str × V) := [("longest", .int l), ("entries", .ref A.e), ("taken", .ref A.t), ("delays", .ref A.d), ("count", .int c)]
def REnt (H : Hp) (v : V) (x : Int × Int) : Prop := ∃ p, v = .ref p ∧ H p = some (.tup [.int x.1, .int x.2])
def oI : Option Int → V
  | none => .non
  | some i => .int i
structure QAt (K : PySem.W.Frag) (H : Hp) (A : QA) (s : QS) : Prop where
  ob : H A.q = some (.ins (He.ga K "Queue") A.dx (qF A s.longest s.count))
  ents : TabAt H A.e (REnt H) s.ents
  taken : TabAt H A.t (fun v o => v = oI o) s.taken
  delays : TabAt H A.d (fun v i => v = .int i) s.delays
  et : A.e ≠ A.t
  ed : A.e ≠ A.d
  td : A.t ≠ A.d
/-- all but the queue and its dicts is as it was -/
def Off (A : QA) (H H' : Hp) : Prop := ∀ b o, H b = some o → b ≠ A.q → b ≠ A.e → b ≠ A.t → b ≠ A.d → H' b = some o
theorem Off.refl (A : QA) (H : Hp) : Off A H H := fun _ _ e _ _ _ _ => e
theorem Off.trans {A : QA} {H H1 H2 : Hp} (x : Off A H H1) (y : Off A H1 H2) : Off A H H2 := fun b o e a b' c d => y b o (x b o e a b' c d) a b' c d
theorem Off.of {A : QA} {H H1 : Hp} (x : Same H H1) : Off A H H1 := fun b o e _ _ _ _ => x b o e
/-- objects of other kinds stand -/
def plainO : HO → Bool
  | .dT _ => false
  | .ins .. => false
  | _ => true
theorem QAt.off {K : PySem.W.Frag} {H H' : Hp} {A : QA} {s : QS} (h : QAt K H A s) (x : Off A H H') {b : Addr} {o : HO} (at_ : H b = some o) (p : plainO o = true) : H' b = some o := by
  obtain ⟨k1, e1, _⟩ := h.ents
  obtain ⟨k2, e2, _⟩ := h.taken
  obtain ⟨k3, e3, _⟩ := h.delays
  refine x b o at_ ?_ ?_ ?_ ?_
  · exact ne_of at_ h.ob fun z => by rw [z] at p; cases p
  · exact ne_of at_ e1 fun z => by rw [z] at p; cases p
  · exact ne_of at_ e2 fun z => by rw [z] at p; cases p
  · exact ne_of at_ e3 fun z => by rw [z] at p; cases p
theorem QAt.sp {K : PySem.W.Frag} {H H' : Hp} {A : QA} {s : QS} (h : QAt K H A s) (x : Off A H H') {b : Addr} {k : Spot} (at_ : SpAt H b k) : SpAt H' b k := h.off x at_ rfl
/-- all of the queue's objects as they were -/
theorem QAt.keeps {K : PySem.W.Frag} {H H' : Hp} {A : QA} {s : QS} (h : QAt K H A s) (k : ∀ b o, H b = some o → H' b = some o) : QAt K H' A s := by
  obtain ⟨ob, ⟨k1, e1, r1⟩, ⟨k2, e2, r2⟩, ⟨k3, e3, r3⟩, a, b, c⟩ := h
  exact ⟨k _ _ ob, ⟨k1, k _ _ e1, r1.mono fun v x ⟨p, ev, hp⟩ => ⟨p, ev, k _ _ hp⟩⟩, ⟨k2, k _ _ e2, r2⟩, ⟨k3, k _ _ e3, r3⟩, a, b, c⟩
theorem nm_lk : (Str.ofString "longest" ≠ "entries" ∧ Str.ofString "longest" ≠ "taken" ∧ Str.ofString "longest" ≠ "delays" ∧ Str.ofString "longest" ≠ "count") ∧ (Str.ofString "entries" ≠ "taken" ∧ Str.ofString "entries" ≠ "delays" ∧ Str.ofString "entries" ≠ "count") ∧ (Str.ofString "taken" ≠ "delays" ∧ Str.ofString "taken" ≠ "count") ∧ Str.ofString "delays" ≠ "count" := by decide +kernel
theorem lu_eq {k : Str} {v : V} {r : List (Str × V)} : ((k, v) :: r).lookup k = some v := by simp [List.lookup]
theorem lu_ne {k m : Str} {v : V} {r : List (Str × V)} (h : k ≠ m) : ((k, v) :: r).lookup m = r.lookup m := by
  have : (m == k) = false := beq_eq_false_iff_ne.mpr h.symm
  simp [List.lookup, this]
section
variable {A : QA} {l c : Int}
theorem qF_longest : (qF A l c).lookup (Str.ofString "longest") = some (.int l) := lu_eq
theorem qF_entries : (qF A l c).lookup (Str.ofString "entries") = some (.ref A.e) := (lu_ne nm_lk.1.1).trans lu_eq
theorem qF_taken : (qF A l c).lookup (Str.ofString "taken") = some (.ref A.t) := (lu_ne nm_lk.1.2.1).trans ((lu_ne nm_lk.2.1.1).trans lu_eq)
theorem qF_delays : (qF A l c).lookup (Str.ofString "delays") = some (.ref A.d) := (lu_ne nm_lk.1.2.2.1).trans ((lu_ne nm_lk.2.1.2.1).trans ((lu_ne nm_lk.2.2.1.1).trans lu_eq))
theorem qF_count : (qF A l c).lookup (Str.ofString "count") = some (.int c) := (lu_ne nm_lk.1.2.2.2).trans ((lu_ne nm_lk.2.1.2.2).trans ((lu_ne nm_lk.2.2.1.2).trans ((lu_ne nm_lk.2.2.2).trans lu_eq)))
theorem pf_ne {k m : Str} {v x : V} {r : List (Str × V)} (h : k ≠ m) : putF m x ((k, v) :: r) = (k, v) :: putF m x r := if_neg h
theorem qF_put {z : Int} : putF "count" (.int z) (qF A l c) = qF A l z := by
  unfold qF
  rw [pf_ne nm_lk.1.2.2.2, pf_ne nm_lk.2.1.2.2, pf_ne nm_lk.2.2.1.2, pf_ne nm_lk.2.2.2]
  show _ :: _ :: _ :: _ :: (if (Str.ofString "count") = "count" then _ else _) = _
  rw [if_pos rfl]
theorem qF_made : putF "count" (.int c) (putF "delays" (.ref A.d) (putF "taken" (.ref A.t) (putF "entries" (.ref A.e) (putF "longest" (.int l) [])))) = qF A l c := by
  show putF "count" (.int c) (putF "delays" (.ref A.d) (putF "taken" (.ref A.t) (putF "entries" (.ref A.e) [(Str.ofString "longest", .int l)]))) = _
  rw [pf_ne nm_lk.1.1]
  show putF "count" (.int c) (putF "delays" (.ref A.d) (putF "taken" (.ref A.t) [_, (Str.ofString "entries", .ref A.e)])) = _
  rw [pf_ne nm_lk.1.2.1, pf_ne nm_lk.2.1.1]
  show putF "count" (.int c) (putF "delays" (.ref A.d) [_, _, (Str.ofString "taken", .ref A.t)]) = _
  rw [pf_ne nm_lk.1.2.2.1, pf_ne nm_lk.2.1.2.1, pf_ne nm_lk.2.2.1.1]
  show putF "count" (.int c) [_, _, _, (Str.ofString "delays", .ref A.d)] = _
  rw [pf_ne nm_lk.1.2.2.2, pf_ne nm_lk.2.1.2.2, pf_ne nm_lk.2.2.1.2, pf_ne nm_lk.2.2.2]
  rfl
end
end

/-! ### the queue's code -/
/-- a key as the store wants it -/
def okKey (k : PySem.W.Tup Str) : Bool := match k.items with
  | [a, b, c] => (userB a && userB b) && (nameV (.str c) && decide (c.length ≤ 1000))
  | _ => false
theorem okKey_of {k : PySem.W.Tup Str} (h : okKey k = true) : ∃ a b c, k.items = [a, b, c] ∧ userB a = true ∧ userB b = true ∧ nameV (.str c) = true ∧ c.length ≤ 1000 := by
  obtain ⟨items⟩ := k
  match items, h with
  | [a, b, c], h =>
    have h : ((userB a && userB b) && (nameV (.str c) && decide (c.length ≤ 1000))) = true := h
    simp only [Bool.and_eq_true, decide_eq_true_iff] at h
    exact ⟨a, b, c, rfl, h.1.1, h.1.2, h.2.1, h.2.2⟩
theorem user_short {z : Str} (h : userB z = true) : z.length ≤ 100000 := by
  have h : userL (tl z) = true := h
  unfold userL at h
  simp only [Bool.and_eq_true, decide_eq_true_iff] at h
  rw [len_tl]; omega
def sp_check_number (K : PySem.W.Frag) : Sp := fun vs H Q _ => ∃ (i : Int) (z : Str), vs = [.int i, .str z, .non] ∧ 0 ≤ i ∧ Q .non H
theorem ok_check_number {P : Program} {w : World} {K : PySem.W.Frag} {mg : Str → Option Value} {base : Heap} {fd : FuncData} (T : Txt K mg w) (F : FnP K "check_number" s_check_number [.non] fd) : FnOk P w K mg base CX0 2 (He.ga K "check_number") fd ps_check_number (sp_check_number K) := by
  obtain ⟨fd_is_integer, F_is_integer⟩ := T.d_is_integer
  have G_is_integer := ok_is_integer (P := P) (w := w) (base := base) T F_is_integer
  have k_is_integer := F_is_integer.kp
  have b_is_integer := bi_is_integer F_is_integer
  refine F.ok sc_check_number (fun vs H Q E h => ?len) (fun cdv A outer s H vs Q E hr h => ?body)
  case len => obtain ⟨i, z, rfl, h0, k⟩ := h; rfl
  case body =>
  obtain ⟨i, z, rfl, h0, k⟩ := h
  have hu := hu_of hr
  refine ⟨_, PSs.nox (pss_one (ps_if (PW.pt (pw_or (pt_not (pt_val (pe_call G_is_integer (hr.mono (by first | decide | omega)) rfl T.g_is_integer k_is_integer b_is_integer .nil pass0 (pa_cons (pv 0) pa_nil)))) (pw_or (pt_cmpR op_lt (pv 0) pe_int (nomark _)) (pw_or1 (PW.pt (pw_and (pt_cmpR op_notN (pv 2) pe_non (nomark _)) (pw_and1 (pt_cmpR op_gt (pv 0) (pv 2) (nomark _))))))))) (pss_one ps_never) pss_nil)), ?_⟩
  refine ⟨_, rfl, .int i, rfl, .inl trivial, ⟨_, rfl, iteF ?_⟩⟩
  refine ⟨_, rfl, _, _, rfl, rfl, _, rfl, ite2 (fun h => ?_) fun _ => ⟨_, rfl, rfl, _, rfl, iteF (iteF k)⟩⟩
  exact absurd (of_decide_eq_true h) (by omega)
theorem user_shrt {z : Str} (h : userB z = true) : Shrt (.str z) := fun y e => by cases e; exact user_short h
def sp_check_key (K : PySem.W.Frag) : Sp := fun vs H Q _ => ∃ (a : Addr) (k : Spot), vs = [.ref a] ∧ SpAt H a k ∧ okKey k = true ∧ ∀ H', Same H H' → Q .non H'
theorem ok_check_key {P : Program} {w : World} {K : PySem.W.Frag} {mg : Str → Option Value} {base : Heap} {fd : FuncData} (T : Txt K mg w) (F : FnP K "check_key" s_check_key [] fd) : FnOk P w K mg base CX0 53 (He.ga K "check_key") fd ps_check_key (sp_check_key K) := by
  obtain ⟨fd_is_name, F_is_name⟩ := T.d_is_name
  have G_is_name := ok_is_name (P := P) (w := w) (base := base) T F_is_name
  have k_is_name := F_is_name.kp
  have b_is_name := bi_is_name F_is_name
  obtain ⟨fd_is_user_name, F_is_user_name⟩ := T.d_is_user_name
  have G_is_user_name := ok_is_user_name (P := P) (w := w) (base := base) T F_is_user_name
  have k_is_user_name := F_is_user_name.kp
  have b_is_user_name := bi_is_user_name F_is_user_name
  refine F.ok sc_check_key (fun vs H Q E h => ?len) (fun cdv A outer s H vs Q E hr h => ?body)
  case len => obtain ⟨a, key, rfl, ha, hk, k⟩ := h; rfl
  case body =>
  obtain ⟨a, key, rfl, ha, hk, k⟩ := h
  have hu := hu_of hr
  refine ⟨_, PSs.nox (pss_cons (ps_if (PW.pt (pw_or (pt_not (pt_val (pe_callB call_isi (by rfl) T.n_isinstance (by decide +kernel) (pa_cons (pv 0) (pa_cons (pe_bltn (v := .ty "tuple") rfl T.n_tuple (by decide +kernel) rfl) pa_nil))))) (pw_or (pt_cmpR op_ne (pe_callB call_len_seq (by rfl) T.n_len (by decide +kernel) (pa_cons (pv 0) pa_nil)) pe_int (nomark _)) (pw_or (pt_not (pt_val (pe_call G_is_user_name (hr.mono (by first | decide | omega)) rfl T.g_is_user_name k_is_user_name b_is_user_name .nil pass0 (pa_cons (pe_ix ix_tup (pv 0) pe_int (fun _ _ => rfl)) pa_nil)))) (pw_or1 (pt_not (pt_val (pe_call G_is_user_name (hr.mono (by first | decide | omega)) rfl T.g_is_user_name k_is_user_name b_is_user_name .nil pass0 (pa_cons (pe_ix ix_tup (pv 0) pe_int (fun _ _ => rfl)) pa_nil))))))))) (pss_one ps_never) pss_nil)
    (pss_one (ps_if (pt_not (pt_val (pe_call G_is_name (hr.mono (by first | decide | omega)) rfl T.g_is_name k_is_name b_is_name .nil pass0 (pa_cons (pe_ix ix_tup (pv 0) pe_int (fun _ _ => rfl)) pa_nil)))) (pss_one ps_never) pss_nil))), ?_⟩
  obtain ⟨x, y, z, items_, ux, uy, nz, sz⟩ := okKey_of hk
  have ga : H a = some (.tup [.str x, .str y, .str z]) := by unfold SpAt at ha; rw [items_] at ha; exact ha
  refine ⟨_, rfl, _, _, _, _, true, rfl, .ty "tuple", .base (.tup ga), kit_ty (by decide +kernel), _, rfl, iteF ?_⟩
  refine ⟨_, rfl, a, _, rfl, .inr (SqT.of ga), rfl, _, rfl, iteF ?_⟩
  refine ⟨_, rfl, a, _, 0, .str x, rfl, rfl, SqT.of ga, atI_nat (j := 0) rfl, .str x, rfl, .inl trivial, user_shrt ux, fun H1 S1 => ?_⟩
  rw [show userV (.str x) = true from ux]
  have g1 := S1 _ _ ga
  refine ⟨_, rfl, iteF ⟨_, rfl, a, _, 1, .str y, rfl, rfl, SqT.of g1, atI_nat (j := 1) rfl, .str y, rfl, .inl trivial, user_shrt uy, fun H2 S2 => ?_⟩⟩
  rw [show userV (.str y) = true from uy]
  have g2 := S2 _ _ g1
  refine ⟨_, rfl, iteF ?_⟩
  refine ⟨_, rfl, a, _, 2, .str z, rfl, rfl, SqT.of g2, atI_nat (j := 2) rfl, .str z, rfl, .inl trivial, (fun w e => by cases e; omega), fun H3 S3 => ?_⟩
  rw [nz]
  exact ⟨_, rfl, iteF (k H3 (Same.trans' (Same.trans' S1 S2) S3))⟩
/-! the object -/
theorem QAt.cap {K : PySem.W.Frag} {H : Hp} {A : QA} {s : QS} (h : QAt K H A s) : A.q ≠ A.e ∧ A.q ≠ A.t ∧ A.q ≠ A.d := by
  obtain ⟨k1, e1, _⟩ := h.ents
  obtain ⟨k2, e2, _⟩ := h.taken
  obtain ⟨k3, e3, _⟩ := h.delays
  exact ⟨ne_of h.ob e1 (fun z => nomatch z), ne_of h.ob e2 (fun z => nomatch z), ne_of h.ob e3 (fun z => nomatch z)⟩
theorem REnt.keep {H H' : Hp} {v : V} {x : Int × Int} (r : REnt H v x) (k : ∀ p ys, H p = some (.tup ys) → H' p = some (.tup ys)) : REnt H' v x := have ⟨p, ev, hp⟩ := r; ⟨p, ev, k _ _ hp⟩
theorem tup_upd {H : Hp} {a : Addr} {u o : HO} (ha : H a = some u) (n : ∀ ys, u ≠ .tup ys) : ∀ p ys, H p = some (.tup ys) → upd H a o p = some (.tup ys) := fun p ys hp => by rw [upd_ne (ne_of hp ha fun z => n ys z.symm)]; exact hp
/-- the queue with a new count and a new time of a key -/
theorem QAt.bumped {K : PySem.W.Frag} {H : Hp} {A : QA} {s : QS} {k : Spot} {t : Int} {T : Addr} {kvs : List (List Key × V)} (h : QAt K H A s) (he : H A.e = some (.dT kvs)) (rows : Rows (REnt H) kvs s.ents) (hT : H T = none) {H1 H2 H3 : Hp}
    (e1 : H1 = upd H A.q (.ins (He.ga K "Queue") A.dx (qF A s.longest (s.count + 1)))) (e2 : H2 = upd H1 T (.tup [.int t, .int (s.count + 1)])) (e3 : H3 = upd H2 A.e (.dT (putK kvs (kk k) (.ref T)))) : QAt K H3 A (s.bump k t) ∧ Off A H H3 := by
  subst e1; subst e2; subst e3
  obtain ⟨qe, qt, qd⟩ := h.cap
  obtain ⟨k2, g2, r2⟩ := h.taken
  obtain ⟨k3, g3, r3⟩ := h.delays
  have Tq : A.q ≠ T := ne_of_none h.ob hT
  have Te : A.e ≠ T := ne_of_none he hT
  have Tt : A.t ≠ T := ne_of_none g2 hT
  have Td : A.d ≠ T := ne_of_none g3 hT
  refine ⟨⟨?_, ⟨_, upd_same, ?_⟩, ⟨k2, ?_, r2⟩, ⟨k3, ?_, r3⟩, h.et, h.ed, h.td⟩, fun b o e a1 a2 a3 a4 => ?_⟩
  · rw [upd_ne qe, upd_ne Tq, upd_same]; rfl
  · refine Rows.put (rows.mono fun v x r => r.keep fun p ys hp => ?_) k ⟨T, rfl, ?_⟩
    · rw [upd_ne (ne_of hp he fun z => nomatch z), upd_ne (ne_of_none hp hT), upd_ne (ne_of hp h.ob fun z => nomatch z)]; exact hp
    · rw [upd_ne Te.symm, upd_same]
  · rw [upd_ne h.et.symm, upd_ne Tt, upd_ne qt.symm]; exact g2
  · rw [upd_ne h.ed.symm, upd_ne Td, upd_ne qd.symm]; exact g3
  · rw [upd_ne a2, upd_ne (ne_of_none e hT), upd_ne a1]; exact e
/-- another table of times -/
theorem QAt.setT {K : PySem.W.Frag} {H : Hp} {A : QA} {s : QS} {kvs : List (List Key × V)} {es : List (Spot × Option Int)} (h : QAt K H A s) (rows : Rows (fun v o => v = oI o) kvs es) : QAt K (upd H A.t (.dT kvs)) A { s with taken := es } ∧ Off A H (upd H A.t (.dT kvs)) := by
  obtain ⟨qe, qt, qd⟩ := h.cap
  obtain ⟨k1, g1, r1⟩ := h.ents
  obtain ⟨k2, g2, r2⟩ := h.taken
  obtain ⟨k3, g3, r3⟩ := h.delays
  refine ⟨⟨by rw [upd_ne qt]; exact h.ob, ⟨k1, by rw [upd_ne h.et]; exact g1, r1.mono fun v x r => r.keep (tup_upd g2 fun _ z => nomatch z)⟩, ⟨_, upd_same, rows⟩, ⟨k3, by rw [upd_ne h.td.symm]; exact g3, r3⟩, h.et, h.ed, h.td⟩, fun b o e a1 a2 a3 a4 => by rw [upd_ne a3]; exact e⟩
theorem QAt.setD {K : PySem.W.Frag} {H : Hp} {A : QA} {s : QS} {kvs : List (List Key × V)} {es : List (Spot × Int)} (h : QAt K H A s) (rows : Rows (fun v i => v = .int i) kvs es) : QAt K (upd H A.d (.dT kvs)) A { s with delays := es } ∧ Off A H (upd H A.d (.dT kvs)) := by
  obtain ⟨qe, qt, qd⟩ := h.cap
  obtain ⟨k1, g1, r1⟩ := h.ents
  obtain ⟨k2, g2, r2⟩ := h.taken
  obtain ⟨k3, g3, r3⟩ := h.delays
  refine ⟨⟨by rw [upd_ne qd]; exact h.ob, ⟨k1, by rw [upd_ne h.ed]; exact g1, r1.mono fun v x r => r.keep (tup_upd g3 fun _ z => nomatch z)⟩, ⟨k2, by rw [upd_ne h.td]; exact g2, r2⟩, ⟨_, upd_same, rows⟩, h.et, h.ed, h.td⟩, fun b o e a1 a2 a3 a4 => by rw [upd_ne a4]; exact e⟩
theorem QAt.setE {K : PySem.W.Frag} {H : Hp} {A : QA} {s : QS} {kvs0 kvs : List (List Key × V)} {es : List (Spot × (Int × Int))} (h : QAt K H A s) (rows : Rows (REnt H) kvs es) : QAt K (upd H A.e (.dT kvs)) A { s with ents := es } ∧ Off A H (upd H A.e (.dT kvs)) := by
  obtain ⟨qe, qt, qd⟩ := h.cap
  obtain ⟨k1, g1, r1⟩ := h.ents
  obtain ⟨k2, g2, r2⟩ := h.taken
  obtain ⟨k3, g3, r3⟩ := h.delays
  refine ⟨⟨by rw [upd_ne qe]; exact h.ob, ⟨_, upd_same, rows.mono fun v x r => r.keep (tup_upd g1 fun _ z => nomatch z)⟩, ⟨k2, by rw [upd_ne h.et.symm]; exact g2, r2⟩, ⟨k3, by rw [upd_ne h.ed.symm]; exact g3, r3⟩, h.et, h.ed, h.td⟩, fun b o e a1 a2 a3 a4 => by rw [upd_ne a2]; exact e⟩
def sp_Queue_put (K : PySem.W.Frag) : Sp := fun vs H Q _ => ∃ (A : QA) (s : QS) (kb : Addr) (k : Spot) (t : Int), vs = [.ref A.q, .ref kb, .int t] ∧ QAt K H A s ∧ SpAt H kb k ∧ s.ents.length < 100000 ∧ ∀ H', Off A H H' → QAt K H' A (s.put k t) → Q .non H'
theorem SpAt.key {H : Hp} {a : Addr} {t : Spot} (h : SpAt H a t) : H a = some (.tup ((kk t).map kV)) := by rw [kk_kV]; exact h
theorem ok_Queue_put {P : Program} {w : World} {K : PySem.W.Frag} {mg : Str → Option Value} {base : Heap} {fd : FuncData} (T : Txt K mg w) (F : FunD K "put" "Queue.put" (defArgs s_Queue_put) (defBody s_Queue_put) (defScope s_Queue_put) [] [] (He.fAd K ("Queue", some "put")) fd) : FnOk P w K mg base CX0 1 (He.fAd K ("Queue", some "put")) fd ps_Queue_put (sp_Queue_put K) := by
  refine F.ok sc_Queue_put (fun vs H Q E h => ?len) (fun cdv A outer s H vs Q E hr h => ?body)
  case len => obtain ⟨A, s, kb, key, t, rfl, hq, hk, few, k⟩ := h; rfl
  case body =>
  obtain ⟨A, s, kb, key, t, rfl, hq, hk, few, k⟩ := h
  have hu := hu_of hr
  refine ⟨_, PSs.nox (pss_one (ps_if (PW.pt (pw_or (pt_cmp (pc_dnotin hu (pv 1) (pe_fld (pv 0) rfl))) (pw_or1 (pt_cmpR op_lt (pv 2) (pe_ix ix_tup (pe_dget hu (pe_fld (pv 0) rfl) (pv 1) (fun _ _ => rfl)) pe_int (fun _ _ => rfl)) (nomark _))))) (pss_cons (ps_fldaug (pv 0) pe_int in_add)
      (pss_one (ps_dput hu (pe_fld (pv 0) rfl) (pv 1) (pe_tup (pa_cons (pv 2) (pa_cons (pe_fld (pv 0) rfl) pa_nil))) rfl))) pss_nil)), ?_⟩
  have hu := hu_of hr
  obtain ⟨kvs, ge, rows⟩ := hq.ents
  have get_ := DGet.t ge hk.key
  have bump_ : QS.put s key t = s.bump key t → tSeq (sFldAug K (tVar 0) (tC (V.int 1)) rAdd "count") (sDPut (tFld K (tVar 0) "entries") (tVar 1) (tTup (tCons (tVar 2) (tCons (tFld K (tVar 0) "count") tNil)))) { nx := fun x H' => Q V.non H', rt := Q } (L2.start N_Queue_put [V.ref A.q, V.ref kb, V.int t]) H := fun e => by
    refine ⟨_, rfl, A.q, _, A.dx, _, _, rfl, hq.ob, T.cl_Queue, T.no_Queue_count, qF_count, _, _, rfl, rfl, A.dx, _, hq.ob, (by show 5 < 1000; decide), ?_⟩
    rw [qF_put]
    generalize e1 : upd H A.q (.ins (He.ga K "Queue") A.dx (qF A s.longest (s.count + 1))) = H1
    have ob1 : H1 A.q = some (.ins (He.ga K "Queue") A.dx (qF A s.longest (s.count + 1))) := e1 ▸ upd_same
    have ge1 : H1 A.e = some (.dT kvs) := by rw [← e1, upd_ne hq.cap.1.symm]; exact ge
    have hk1 : SpAt H1 kb key := by unfold SpAt; rw [← e1, upd_ne (ne_of hk hq.ob fun z => nomatch z)]; exact hk
    refine ⟨_, rfl, _, rfl, A.q, _, A.dx, _, _, rfl, ob1, T.cl_Queue, T.no_Queue_count, qF_count, smallN (by show 2 ≤ 1000; decide), fun p hp => ?_⟩
    have hpH : H p = none := by
      by_cases z : p = A.q
      · rw [z] at hp; rw [ob1] at hp; cases hp
      · rw [← e1, upd_ne z] at hp; exact hp
    generalize e2 : upd H1 p (.tup [.int t, .int (s.count + 1)]) = H2
    have ob2 : H2 A.q = some (.ins (He.ga K "Queue") A.dx (qF A s.longest (s.count + 1))) := by rw [← e2, upd_ne (ne_of_none ob1 hp)]; exact ob1
    have ge2 : H2 A.e = some (.dT kvs) := by rw [← e2, upd_ne (ne_of_none ge1 hp)]; exact ge1
    have hk2 : SpAt H2 kb key := by unfold SpAt; rw [← e2, upd_ne (ne_of_none hk1 hp)]; exact hk1
    refine ⟨_, rfl, A.q, _, A.dx, _, _, rfl, ob2, T.cl_Queue, T.no_Queue_entries, qF_entries, _, rfl, A.e, _, rfl, DPut.t ge2 hk2.key (by rw [rows.length]; exact small5' (by omega)), ?_⟩
    obtain ⟨q3, o3⟩ := hq.bumped (k := key) (t := t) ge rows hpH e1.symm e2.symm rfl
    exact k _ o3 (e ▸ q3)
  refine ⟨_, rfl, _, rfl, A.q, _, A.dx, _, _, rfl, hq.ob, T.cl_Queue, T.no_Queue_entries, qF_entries, A.e, _, rfl, get_, ?_⟩
  rcases rows.get key with ⟨n1, n2⟩ | ⟨x, v, e1, e2, p, rfl, hp⟩
  · rw [n2]
    exact ⟨_, rfl, iteT (bump_ (by unfold QS.put; rw [n1]))⟩
  · rw [e2] at get_ ⊢
    refine ⟨_, rfl, iteF ⟨_, rfl, _, rfl, A.q, _, A.dx, _, _, rfl, hq.ob, T.cl_Queue, T.no_Queue_entries, qF_entries, _, rfl, A.e, _, rfl, get_, ?_⟩⟩
    refine ⟨p, _, 0, .int x.1, rfl, rfl, SqT.of hp, atI_nat (j := 0) rfl, _, _, rfl, rfl, _, rfl, ite2 (fun h => ?_) (fun h => ?_)⟩
    · exact bump_ (by unfold QS.put; rw [e1]; exact if_pos (of_decide_eq_true h))
    · exact k H (Off.refl A H) (by unfold QS.put; rw [e1]; show QAt K H A (if t < x.1 then _ else _); rw [if_neg (fun z => h (decide_eq_true z))]; exact hq)

/-! ### add, check_taken, done, forget, delay -/
def qNames : List Str := ["longest", "entries", "taken", "delays", "count"]
theorem qF_no {A : QA} {l c : Int} {m : Str} (h : (qNames.all fun n => decide (n ≠ m)) = true) : (qF A l c).lookup m = none := by
  simp only [qNames, List.all_cons, List.all_nil, Bool.and_eq_true, decide_eq_true_iff] at h
  unfold qF
  rw [lu_ne h.1, lu_ne h.2.1, lu_ne h.2.2.1, lu_ne h.2.2.2.1, lu_ne h.2.2.2.2.1]
  rfl
theorem QAt.same {K : PySem.W.Frag} {H H' : Hp} {A : QA} {s : QS} (h : QAt K H A s) (k : Same H H') : QAt K H' A s := h.keeps k
theorem SpAt.same {H H' : Hp} {a : Addr} {t : Spot} (h : SpAt H a t) (k : Same H H') : SpAt H' a t := k _ _ h
structure Small (s : QS) : Prop where
  e : s.ents.length < 100000
  t : s.taken.length < 100000
  d : s.delays.length < 100000
def sp_Queue_add (K : PySem.W.Frag) : Sp := fun vs H Q _ => ∃ (A : QA) (s : QS) (kb : Addr) (k : Spot) (t : Int), vs = [.ref A.q, .ref kb, .int t] ∧ QAt K H A s ∧ SpAt H kb k ∧ okKey k = true ∧ 0 ≤ t ∧ Small s ∧ ∀ H', Off A H H' → QAt K H' A (s.add k t) → Q .non H'
theorem ok_Queue_add {P : Program} {w : World} {K : PySem.W.Frag} {mg : Str → Option Value} {base : Heap} {fd : FuncData} (T : Txt K mg w) (F : FunD K "add" "Queue.add" (defArgs s_Queue_add) (defBody s_Queue_add) (defScope s_Queue_add) [] [] (He.fAd K ("Queue", some "add")) fd) : FnOk P w K mg base CX0 54 (He.fAd K ("Queue", some "add")) fd ps_Queue_add (sp_Queue_add K) := by
  obtain ⟨fd_check_key, F_check_key⟩ := T.d_check_key
  have G_check_key := ok_check_key (P := P) (w := w) (base := base) T F_check_key
  have k_check_key := F_check_key.kp
  have b_check_key := bi_check_key F_check_key
  obtain ⟨fd_check_number, F_check_number⟩ := T.d_check_number
  have G_check_number := ok_check_number (P := P) (w := w) (base := base) T F_check_number
  have k_check_number := F_check_number.kp
  obtain ⟨ds_check_number, hd_check_number, b_check_number⟩ := bi_check_number F_check_number
  obtain ⟨fd_Queue_put, F_Queue_put⟩ := T.d_Queue_put
  have G_Queue_put := ok_Queue_put (P := P) (w := w) (base := base) T F_Queue_put
  have k_Queue_put := F_Queue_put.kp
  have b_Queue_put := bi_Queue_put F_Queue_put
  refine F.ok sc_Queue_add (fun vs H Q E h => ?len) (fun cdv A outer s H vs Q E hr h => ?body)
  case len => obtain ⟨A, s, kb, key, t, rfl, hq0, hk0, hok, ht, few, k⟩ := h; rfl
  case body =>
  obtain ⟨A, s, kb, key, t, rfl, hq0, hk0, hok, ht, few, k⟩ := h
  have hu := hu_of hr
  refine ⟨_, PSs.nox (pss_cons (ps_expr (pe_call G_check_key (hr.mono (by first | decide | omega)) rfl T.g_check_key k_check_key b_check_key .nil pass0 (pa_cons (pv 1) pa_nil)))
    (pss_cons (ps_expr (pe_call G_check_number (hr.mono (by first | decide | omega)) rfl T.g_check_number k_check_number b_check_number hd_check_number pass0 (pa_cons (pv 2) (pa_cons pe_str pa_nil))))
    (pss_cons (ps_if (pt_cmp (pc_dnotin hu (pv 1) (pe_fld (pv 0) rfl))) (pss_cons (ps_expr (pe_meth (pv 0) T.cl_Queue T.m_Queue_put G_Queue_put (hr.mono (by first | decide | omega)) b_Queue_put .nil pass0 (pa_cons (pv 1) (pa_cons (pv 2) pa_nil))))
      (pss_one ps_retN)) pss_nil)
    (pss_cons (ps_set (i := 3) sc_Queue_add.nd rfl (Or.inl rfl) (pe_dget hu (pe_fld (pv 0) rfl) (pv 1) (fun _ _ => rfl)))
    (pss_one (ps_dput hu (pe_fld (pv 0) rfl) (pv 1) (pe_ifExp (pt_cmpR op_isN (pv 3) pe_non (nomark _)) (pv 2) (pe_callB (call_min2 rfl) (by rfl) T.n_min (by decide +kernel) (pa_cons (pv 3) (pa_cons (pv 2) pa_nil)))) rfl)))))), ?_⟩
  have hu := hu_of hr
  refine ⟨_, rfl, kb, key, rfl, hk0, hok, fun H1 S1 => ⟨_, rfl, t, _, rfl, ht, ?_⟩⟩
  have hq := hq0.same S1
  have hk := hk0.same S1
  have O1 : Off A H H1 := Off.of S1
  obtain ⟨kvs, gt, rows⟩ := hq.taken
  have get_ := DGet.t gt hk.key
  refine ⟨_, rfl, _, rfl, A.q, _, A.dx, _, _, rfl, hq.ob, T.cl_Queue, T.no_Queue_taken, qF_taken, A.t, _, rfl, get_, ?_⟩
  rcases rows.get key with ⟨n1, n2⟩ | ⟨x, v, e1, e2, rfl⟩
  · rw [n2]
    refine ⟨_, rfl, iteT ⟨_, rfl, A.q, A.dx, _, rfl, hq.ob, qF_no (by decide +kernel), _, rfl, _, rfl, A, s, kb, key, t, rfl, hq, hk, few.e, fun H2 O2 q2 => ?_⟩⟩
    exact k H2 (O1.trans O2) (by unfold QS.add; rw [n1]; exact q2)
  · rw [e2] at get_ ⊢
    refine ⟨_, rfl, iteF ⟨_, rfl, A.q, _, A.dx, _, _, rfl, hq.ob, T.cl_Queue, T.no_Queue_taken, qF_taken, _, rfl, A.t, _, rfl, get_, ?_⟩⟩
    have fin : ∀ o : Option Int, QS.add s key t = { s with taken := putS s.taken key o } → ∃ H2, DPut H1 A.t (.ref kb) (oI o) H2 ∧ Q .non H2 := fun o e => by
      refine ⟨_, DPut.t gt hk.key (by rw [rows.length]; exact small5' (by have := few.t; omega)), ?_⟩
      obtain ⟨q3, o3⟩ := hq.setT (rows.put key (v := oI o) (a := o) rfl)
      exact k _ (O1.trans o3) (e ▸ q3)
    cases x with
    | none =>
      refine ⟨_, rfl, rfl, _, rfl, iteT ⟨_, rfl, ?_⟩⟩
      obtain ⟨H2, p, q⟩ := fin (some t) (by unfold QS.add; rw [e1])
      exact ⟨_, rfl, A.q, _, A.dx, _, _, rfl, hq.ob, T.cl_Queue, T.no_Queue_taken, qF_taken, _, rfl, A.t, H2, rfl, p, q⟩
    | some u =>
      refine ⟨_, rfl, rfl, _, rfl, iteF ⟨_, rfl, _, rfl, _, _, rfl, ?_⟩⟩
      obtain ⟨H2, p, q⟩ := fin (some (minPy u t)) (by unfold QS.add; rw [e1])
      exact ⟨_, rfl, A.q, _, A.dx, _, _, rfl, hq.ob, T.cl_Queue, T.no_Queue_taken, qF_taken, _, rfl, A.t, H2, rfl, p, q⟩
def sp_Queue_check_taken (K : PySem.W.Frag) : Sp := fun vs H Q _ => ∃ (A : QA) (s : QS) (kb : Addr) (k : Spot), vs = [.ref A.q, .ref kb] ∧ QAt K H A s ∧ SpAt H kb k ∧ okKey k = true ∧ (getS s.taken k).isSome = true ∧ ∀ H', Same H H' → Q .non H'
theorem ok_Queue_check_taken {P : Program} {w : World} {K : PySem.W.Frag} {mg : Str → Option Value} {base : Heap} {fd : FuncData} (T : Txt K mg w) (F : FunD K "check_taken" "Queue.check_taken" (defArgs s_Queue_check_taken) (defBody s_Queue_check_taken) (defScope s_Queue_check_taken) [] [] (He.fAd K ("Queue", some "check_taken")) fd) : FnOk P w K mg base CX0 54 (He.fAd K ("Queue", some "check_taken")) fd ps_Queue_check_taken (sp_Queue_check_taken K) := by
  obtain ⟨fd_check_key, F_check_key⟩ := T.d_check_key
  have G_check_key := ok_check_key (P := P) (w := w) (base := base) T F_check_key
  have k_check_key := F_check_key.kp
  have b_check_key := bi_check_key F_check_key
  refine F.ok sc_Queue_check_taken (fun vs H Q E h => ?len) (fun cdv A outer s H vs Q E hr h => ?body)
  case len => obtain ⟨A, s, kb, key, rfl, hq0, hk0, hok, there, k⟩ := h; rfl
  case body =>
  obtain ⟨A, s, kb, key, rfl, hq0, hk0, hok, there, k⟩ := h
  have hu := hu_of hr
  refine ⟨_, PSs.nox (pss_cons (ps_expr (pe_call G_check_key (hr.mono (by first | decide | omega)) rfl T.g_check_key k_check_key b_check_key .nil pass0 (pa_cons (pv 1) pa_nil)))
    (pss_one (ps_if (pt_cmp (pc_dnotin hu (pv 1) (pe_fld (pv 0) rfl))) (pss_one ps_never) pss_nil))), ?_⟩
  have hu := hu_of hr
  refine ⟨_, rfl, kb, key, rfl, hk0, hok, fun H1 S1 => ?_⟩
  have hq := hq0.same S1
  have hk := hk0.same S1
  obtain ⟨kvs, gt, rows⟩ := hq.taken
  refine ⟨_, rfl, _, rfl, A.q, _, A.dx, _, _, rfl, hq.ob, T.cl_Queue, T.no_Queue_taken, qF_taken, A.t, _, rfl, DGet.t gt hk.key, ?_⟩
  rcases rows.get key with ⟨n1, n2⟩ | ⟨x, v, e1, e2, rfl⟩
  · rw [n1] at there; cases there
  · rw [e2]
    exact ⟨_, rfl, iteF (k H1 S1)⟩
def sp_Queue_done (K : PySem.W.Frag) : Sp := fun vs H Q _ => ∃ (A : QA) (s : QS) (kb : Addr) (k : Spot), vs = [.ref A.q, .ref kb] ∧ QAt K H A s ∧ SpAt H kb k ∧ okKey k = true ∧ (getS s.taken k).isSome = true ∧ Small s ∧ ∀ H', Off A H H' → QAt K H' A (s.done k) → Q .non H'
theorem ok_Queue_done {P : Program} {w : World} {K : PySem.W.Frag} {mg : Str → Option Value} {base : Heap} {fd : FuncData} (T : Txt K mg w) (F : FunD K "done" "Queue.done" (defArgs s_Queue_done) (defBody s_Queue_done) (defScope s_Queue_done) [] [] (He.fAd K ("Queue", some "done")) fd) : FnOk P w K mg base CX0 55 (He.fAd K ("Queue", some "done")) fd ps_Queue_done (sp_Queue_done K) := by
  obtain ⟨fd_Queue_check_taken, F_Queue_check_taken⟩ := T.d_Queue_check_taken
  have G_Queue_check_taken := ok_Queue_check_taken (P := P) (w := w) (base := base) T F_Queue_check_taken
  have k_Queue_check_taken := F_Queue_check_taken.kp
  have b_Queue_check_taken := bi_Queue_check_taken F_Queue_check_taken
  obtain ⟨fd_Queue_put, F_Queue_put⟩ := T.d_Queue_put
  have G_Queue_put := ok_Queue_put (P := P) (w := w) (base := base) T F_Queue_put
  have k_Queue_put := F_Queue_put.kp
  have b_Queue_put := bi_Queue_put F_Queue_put
  refine F.ok sc_Queue_done (fun vs H Q E h => ?len) (fun cdv A outer s H vs Q E hr h => ?body)
  case len => obtain ⟨A, s, kb, key, rfl, hq0, hk0, hok, there, few, k⟩ := h; rfl
  case body =>
  obtain ⟨A, s, kb, key, rfl, hq0, hk0, hok, there, few, k⟩ := h
  have hu := hu_of hr
  refine ⟨_, PSs.nox (pss_cons (ps_expr (pe_meth (pv 0) T.cl_Queue T.m_Queue_check_taken G_Queue_check_taken (hr.mono (by first | decide | omega)) b_Queue_check_taken .nil pass0 (pa_cons (pv 1) pa_nil)))
    (pss_cons (ps_set (i := 2) sc_Queue_done.nd rfl (Or.inl rfl) (pe_bm PySem.F.plainAttrs_dict PySem.F.slot_dict_pop PySem.F.type_dict_pop (mt_pop1T hu) (pe_fld (pv 0) rfl) (pa_cons (pv 1) pa_nil)))
    (pss_one (ps_if (pt_cmpR op_notN (pv 2) pe_non (nomark _)) (pss_one (ps_expr (pe_meth (pv 0) T.cl_Queue T.m_Queue_put G_Queue_put (hr.mono (by first | decide | omega)) b_Queue_put .nil pass0 (pa_cons (pv 1) (pa_cons (pv 2) pa_nil))))) pss_nil)))), ?_⟩
  have hu := hu_of hr
  refine ⟨_, rfl, A.q, A.dx, _, rfl, hq0.ob, qF_no (by decide +kernel), _, rfl, A, s, kb, key, rfl, hq0, hk0, hok, there, fun H1 S1 => ?_⟩
  have hq := hq0.same S1
  have hk := hk0.same S1
  have O1 : Off A H H1 := Off.of S1
  obtain ⟨kvs, gt, rows⟩ := hq.taken
  refine ⟨_, rfl, A.q, _, A.dx, _, _, rfl, hq.ob, T.cl_Queue, T.no_Queue_taken, qF_taken, .inr (.inr (.inl ⟨rfl, .inr ⟨_, gt⟩⟩)), _, rfl, ?_⟩
  rcases rows.get key with ⟨n1, n2⟩ | ⟨x, v, e1, e2, rfl⟩
  · rw [n1] at there; cases there
  refine ⟨A.t, kb, kvs, kk key, _, rfl, rfl, gt, hk.key, e2, ?_⟩
  obtain ⟨q2, o2⟩ := hq.setT (rows.drop key)
  have hk2 : SpAt (upd H1 A.t (.dT (dropK kvs (kk key)))) kb key := hq.sp o2 hk
  generalize upd H1 A.t (.dT (dropK kvs (kk key))) = H2 at q2 o2 hk2 ⊢
  cases x with
  | none => exact ⟨_, rfl, rfl, _, rfl, iteF (k H2 (O1.trans o2) (by unfold QS.done; rw [e1]; exact q2))⟩
  | some u =>
    refine ⟨_, rfl, rfl, _, rfl, iteT ⟨_, rfl, A.q, A.dx, _, rfl, q2.ob, qF_no (by decide +kernel), _, rfl, _, rfl, A, _, kb, key, u, rfl, q2, hk2, few.e, fun H3 O3 q3 => ?_⟩⟩
    exact k H3 ((O1.trans o2).trans O3) (by unfold QS.done; rw [e1]; exact q3)
def sp_Queue_forget (K : PySem.W.Frag) : Sp := fun vs H Q _ => ∃ (A : QA) (s : QS) (kb : Addr) (k : Spot), vs = [.ref A.q, .ref kb] ∧ QAt K H A s ∧ SpAt H kb k ∧ okKey k = true ∧ ∀ H', Off A H H' → QAt K H' A (s.forget k) → Q .non H'
def sp_Queue_delay (K : PySem.W.Frag) : Sp := fun vs H Q _ => ∃ (A : QA) (s : QS) (kb : Addr) (k : Spot), vs = [.ref A.q, .ref kb] ∧ QAt K H A s ∧ SpAt H kb k ∧ okKey k = true ∧ ∀ H', Same H H' → Q (.int (s.delay k)) H'
theorem ok_Queue_delay {P : Program} {w : World} {K : PySem.W.Frag} {mg : Str → Option Value} {base : Heap} {fd : FuncData} (T : Txt K mg w) (F : FunD K "delay" "Queue.delay" (defArgs s_Queue_delay) (defBody s_Queue_delay) (defScope s_Queue_delay) [] [] (He.fAd K ("Queue", some "delay")) fd) : FnOk P w K mg base CX0 54 (He.fAd K ("Queue", some "delay")) fd ps_Queue_delay (sp_Queue_delay K) := by
  obtain ⟨fd_check_key, F_check_key⟩ := T.d_check_key
  have G_check_key := ok_check_key (P := P) (w := w) (base := base) T F_check_key
  have k_check_key := F_check_key.kp
  have b_check_key := bi_check_key F_check_key
  refine F.ok sc_Queue_delay (fun vs H Q E h => ?len) (fun cdv A outer s H vs Q E hr h => ?body)
  case len => obtain ⟨A, s, kb, key, rfl, hq0, hk0, hok, k⟩ := h; rfl
  case body =>
  obtain ⟨A, s, kb, key, rfl, hq0, hk0, hok, k⟩ := h
  have hu := hu_of hr
  refine ⟨_, PSs.nox (pss_cons (ps_expr (pe_call G_check_key (hr.mono (by first | decide | omega)) rfl T.g_check_key k_check_key b_check_key .nil pass0 (pa_cons (pv 1) pa_nil)))
    (pss_one (ps_ret (pe_dget2 hu (pe_fld (pv 0) rfl) (pv 1) pe_int ⟨rfl, rfl, rfl, rfl⟩)))), ?_⟩
  have hu := hu_of hr
  refine ⟨_, rfl, kb, key, rfl, hk0, hok, fun H1 S1 => ?_⟩
  have hq := hq0.same S1
  have hk := hk0.same S1
  obtain ⟨kvs, gd, rows⟩ := hq.delays
  refine ⟨_, rfl, A.q, _, A.dx, _, _, rfl, hq.ob, T.cl_Queue, T.no_Queue_delays, qF_delays, A.d, rfl, .inr ⟨kvs, .inl gd⟩, _, rfl, _, DGet.t gd hk.key, ?_⟩
  have q := k H1 S1
  unfold QS.delay at q
  rcases rows.get key with ⟨n1, n2⟩ | ⟨x, v, e1, e2, rfl⟩
  · rw [n2]; rw [n1] at q; exact q
  · rw [e2]; rw [e1] at q; exact q

/-! ### rows of a queue as objects -/
section
open PySem.W
def RowAt (H : Hp) (p : Addr) (r : Row3) : Prop := ∃ x q, H p = some (.tup [.ref x, .ref q]) ∧ H x = some (.tup [.int r.1.1, .int r.1.2]) ∧ SpAt H q r.2
def RowsAt (H : Hp) (D : Addr) (rs : List Row3) : Prop := ∃ ps : List Addr, H D = some (.lst (ps.map V.ref)) ∧ Paired (RowAt H) ps rs
theorem RowAt.keep {H H' : Hp} {p : Addr} {r : Row3} (h : RowAt H p r) (k : ∀ b ys, H b = some (.tup ys) → H' b = some (.tup ys)) : RowAt H' p r := have ⟨x, q, a, b, c⟩ := h; ⟨x, q, k _ _ a, k _ _ b, k _ _ c⟩
theorem RowAt.dp {K : PySem.W.Frag} {H : Hp} {p : Addr} {r : Row3} (h : RowAt H p r) : Dp K H (.ref p) (Datum.toD r) :=
  have ⟨_, _, a, b, c⟩ := h
  .tup (SqT.of a) (.cons (.tup (SqT.of b) (.cons (.int _) (.cons (.int _) .nil))) (.cons c.dp .nil))
theorem rows_dpA {K : PySem.W.Frag} {H : Hp} {ps : List Addr} {rs : List Row3} (h : Paired (RowAt H) ps rs) : DpA K H (ps.map V.ref) rs := by
  induction h with
  | nil => exact .nil
  | cons r _ more => exact .cons r.dp more
theorem pair_len {α β : Type} {F : α → β → Prop} {xs : List α} {ys : List β} (h : Paired F xs ys) : xs.length = ys.length := Paired.length h
theorem pair_mono {α β : Type} {F G : α → β → Prop} {xs : List α} {ys : List β} (h : Paired F xs ys) (k : ∀ x y, F x y → G x y) : Paired G xs ys := Paired.mono k h
theorem rowsOf_snoc (es : List (Spot × (Int × Int))) (e : Spot × (Int × Int)) : rowsOf (es ++ [e]) = rowsOf es ++ [(e.2, e.1)] := by unfold rowsOf; rw [List.map_append]; rfl
def dueL (c : Int) (es : List (Spot × (Int × Int))) : List Row3 := rowsOf (es.filter fun e => decide (e.2.1 ≤ c))
theorem dueL_snoc (c : Int) (es : List (Spot × (Int × Int))) (e : Spot × (Int × Int)) : dueL c (es ++ [e]) = dueL c es ++ (if e.2.1 ≤ c then [(e.2, e.1)] else []) := by
  unfold dueL
  rw [List.filter_append, List.filter_cons, List.filter_nil]
  by_cases h : e.2.1 ≤ c
  · rw [if_pos (decide_eq_true h), if_pos h, rowsOf_snoc]
  · rw [if_neg (by simpa using h), if_neg h, List.append_nil, List.append_nil]
theorem dueL_len (c : Int) (es : List (Spot × (Int × Int))) : (dueL c es).length ≤ es.length := by unfold dueL rowsOf; rw [List.length_map]; exact List.length_filter_le _ _
theorem dueL_mem {c : Int} {es : List (Spot × (Int × Int))} {r : Row3} : r ∈ dueL c es ↔ (r.2, r.1) ∈ es ∧ r.1.1 ≤ c := by
  unfold dueL rowsOf
  rw [List.mem_map]
  constructor
  · rintro ⟨e, he, rfl⟩
    have := List.mem_filter.mp he
    exact ⟨this.1, of_decide_eq_true this.2⟩
  · rintro ⟨a, b⟩
    exact ⟨(r.2, r.1), List.mem_filter.mpr ⟨a, decide_eq_true b⟩, rfl⟩
/-- a lock's end: the dict is back, all else as the turns left it -/
theorem unlock_same {H H' : Hp} {d : Addr} {u : HO} {od : Obj} (at_ : H d = some u) (s : Same (upd H d (.frz od u)) H') : Same H (upd H' d u) := fun b o hb => by
  by_cases e : b = d
  · rw [e, upd_same]; rw [e, at_] at hb; exact hb
  · rw [upd_ne e]; exact s _ _ (by rw [upd_ne e]; exact hb)
theorem lock_tup {H : Hp} {d : Addr} {o u : HO} (at_ : H d = some u) (n : ∀ ys, u ≠ .tup ys) {b : Addr} {ys : List V} (h : H b = some (.tup ys)) : upd H d o b = some (.tup ys) := (upd_ne (ne_of h at_ fun z => n ys z.symm)).trans h
end
def sp_Queue_take (K : PySem.W.Frag) : Sp := fun vs H Q _ => ∃ (A : QA) (s : QS) (c : Int), vs = [.ref A.q, .int c] ∧ QAt K H A s ∧ 0 ≤ c ∧ Small s ∧
  ∀ (v : V) (H' : Hp), Off A H H' → QAt K H' A (s.take c) → (match s.first c with | none => v = .non | some k => ∃ b, v = .ref b ∧ SpAt H' b k) → Q v H'
theorem ok_Queue_take {P : Program} {w : World} {K : PySem.W.Frag} {mg : Str → Option Value} {base : Heap} {fd : FuncData} (T : Txt K mg w) (F : FunD K "take" "Queue.take" (defArgs s_Queue_take) (defBody s_Queue_take) (defScope s_Queue_take) [] [] (He.fAd K ("Queue", some "take")) fd) : FnOk P w K mg base CX0 3 (He.fAd K ("Queue", some "take")) fd ps_Queue_take (sp_Queue_take K) := by
  obtain ⟨fd_check_number, F_check_number⟩ := T.d_check_number
  have G_check_number := ok_check_number (P := P) (w := w) (base := base) T F_check_number
  have k_check_number := F_check_number.kp
  obtain ⟨ds_check_number, hd_check_number, b_check_number⟩ := bi_check_number F_check_number
  refine F.ok sc_Queue_take (fun vs H Q E h => ?len) (fun cdv A outer s H vs Q E hr h => ?body)
  case len => obtain ⟨A, s, c, rfl, hq, hc, few, k⟩ := h; rfl
  case body =>
  obtain ⟨A, s, c, rfl, hq, hc, few, k⟩ := h
  have hu := hu_of hr
  refine ⟨_, PSs.nox (pss_cons (ps_expr (pe_call G_check_number (hr.mono (by first | decide | omega)) rfl T.g_check_number k_check_number b_check_number hd_check_number pass0 (pa_cons (pv 1) (pa_cons pe_str pa_nil))))
    (pss_cons (ps_lock (ps_setLc (i := 2) (own := [("key", 3), ("entry", 4)]) (g := gTup K 2 (gCons (gName 3) (gCons (gName 4) gNil))) rfl sc_Queue_take.nd rfl rfl (sw_true rfl rfl rfl (by decide +kernel)) (pi_itemsT (pe_fld (pv 0) rfl)) (blkOk_by (own := [("key", 3), ("entry", 4)]) (N := N_Queue_take) (sc := defScope s_Queue_take) (by decide +kernel)) (fun _ _ _ _ _ => (pg_tup rfl (pgs_cons (pg_name (i := 3) sc_Queue_take.nd rfl (Or.inl rfl) (Or.inr rfl)) (pgs_cons (pg_name (i := 4) sc_Queue_take.nd rfl (Or.inl rfl) (Or.inr rfl)) pgs_nil)))) (fun _ _ _ _ _ => (pts_one (pt_cmpR op_le (pe_ix (show IxR _ (rIxT K) from ix_tup) (pv 4) pe_int (fun _ _ => rfl)) (pv 1) (nomark _)))) (fun _ _ _ _ _ => (pe_tup (pa_cons (pv 4) (pa_cons (pv 3) pa_nil))))))
    (pss_cons (ps_if (pt_not (pt_truth (pv 2) (by intro _; rfl))) (pss_one (ps_ret pe_non)) pss_nil)
    (pss_cons (ps_set (i := 3) sc_Queue_take.nd rfl (Or.inl rfl) (pe_ix ix_tup (pe_callB (cr_minD (α := ((Int × Int) × Spot)) rfl hr.units (by decide)) (by rfl) T.n_min (by decide +kernel) (pa_cons (pv 2) pa_nil)) pe_int (fun _ _ => rfl)))
    (pss_cons (ps_expr (pe_bm PySem.F.plainAttrs_dict PySem.F.slot_dict_pop PySem.F.type_dict_pop (mt_pop1T hu) (pe_fld (pv 0) rfl) (pa_cons (pv 3) pa_nil)))
    (pss_cons (ps_dput hu (pe_fld (pv 0) rfl) (pv 3) pe_non rfl)
    (pss_one (ps_ret (pv 3))))))))), ?_⟩
  have hu := hu_of hr
  refine ⟨_, rfl, c, _, rfl, hc, ?_⟩
  obtain ⟨kvs, ge, rows⟩ := hq.ents
  refine ⟨A.e, _, ge, True.intro, fun od => ?_⟩
  have gF : (upd H A.e (.frz od (.dT kvs))) A.e = _ := upd_same
  have obF : (upd H A.e (.frz od (.dT kvs))) A.q = some (.ins (He.ga K "Queue") A.dx (qF A s.longest s.count)) := (upd_ne hq.cap.1).trans hq.ob
  refine ⟨_, rfl, A.q, _, A.dx, _, _, rfl, obF, T.cl_Queue, T.no_Queue_entries, qF_entries, A.e, od, kvs, rfl, gF, fun D hD => ?_⟩
  have nD : D ≠ A.e := fun z => by rw [z, gF] at hD; cases hD
  have lk := rows.length
  refine lc_it walk_itiT (fun i H' => Same (upd H A.e (.frz od (.dT kvs))) H' ∧ RowsAt H' D (dueL c (s.ents.take i))) ⟨Same.new hD, [], upd_same, .nil⟩ (fun i H' _ p => p.1 _ _ gF) ?_ ?_
  · rintro i x H1 H2 hi ⟨S1, ps, gD, hp⟩ ⟨T, q, row, erow, rfl, hT, hq1, rfl⟩
    obtain ⟨e, ee, ek, p, ep, hpp⟩ := rows.at erow
    obtain ⟨rk, rv⟩ := row
    dsimp only at ek ep hq1
    subst ep
    subst ek
    rw [kk_kV] at hq1
    have hpe := S1 _ _ (lock_tup ge (fun _ z => nomatch z) hpp)
    have S2 := Same.new (u := .tup [.ref q, .ref p]) hT
    have gT : (upd H1 T (.tup [.ref q, .ref p])) T = _ := upd_same
    generalize upd H1 T (.tup [.ref q, .ref p]) = H2 at S2 gT ⊢
    refine ⟨T, _, rfl, SqT.of gT, rfl, _, _, rfl, _, _, rfl, rfl, rfl, ?_⟩
    refine ⟨_, rfl, p, _, 0, .int e.2.1, rfl, rfl, SqT.of (S2 _ _ hpe), atI_nat (j := 0) rfl, _, rfl, _, _, rfl, rfl, _, rfl, ?_⟩
    rw [get_take ee, dueL_snoc]
    refine ite2 (fun h => ?_) (fun h => ?_)
    · have h := of_decide_eq_true h
      refine ⟨_, rfl, _, rfl, smallN (by show 2 ≤ 1000; decide), fun t ht => ?_⟩
      have S3 := Same.new (u := .tup [.ref p, .ref q]) ht
      have gt3 : upd H2 t (.tup [.ref p, .ref q]) t = _ := upd_same
      generalize upd H2 t (.tup [.ref p, .ref q]) = H3 at S3 gt3 ⊢
      have gD3 := S3 _ _ (S2 _ _ gD)
      have dl := dueL_len c (s.ents.take i)
      have lp := pair_len hp
      rw [if_pos h]
      have back : ∀ b ys, H3 b = some (.tup ys) → upd H3 D (.lst (ps.map V.ref ++ [.ref t])) b = some (.tup ys) := fun b ys hb => (upd_ne (ne_of hb gD3 fun z => nomatch z)).trans hb
      refine ⟨_, gD3, small5' ?_, fun b o hb => ?_, ps ++ [t], ?_, Paired.snoc (pair_mono hp fun p' r hr => hr.keep fun b ys hb => back _ _ (S3 _ _ (S2 _ _ hb))) ⟨p, q, back _ _ gt3, back _ _ (S3 _ _ (S2 _ _ hpe)), back _ _ (S3 _ _ (S2 _ _ hq1))⟩⟩
      · rw [List.length_map, lp]
        rw [List.length_take] at dl
        have := few.e
        omega
      · rw [upd_ne (ne_of_none hb hD)]; exact S3 _ _ (S2 _ _ (S1 _ _ hb))
      · rw [upd_same, List.map_append]; rfl
    · have h : ¬ e.2.1 ≤ c := fun z => h (decide_eq_true z)
      rw [if_neg h, List.append_nil]
      exact ⟨S1.trans S2, ps, S2 _ _ gD, pair_mono hp fun p' r hr => hr.keep fun b ys hb => S2 _ _ hb⟩
  · rintro H1 ⟨S1, ps, gD, hp⟩
    rw [lk, List.take_length] at hp
    refine ⟨S1 _ _ gF, ?_⟩
    have S2 := unlock_same ge S1
    have gD2 : upd H1 A.e (.dT kvs) D = some (.lst (ps.map V.ref)) := by rw [upd_ne nD]; exact gD
    have hp2 := pair_mono (G := RowAt (upd H1 A.e (.dT kvs))) hp fun p r hr => hr.keep fun b ys hb => lock_tup (S1 _ _ gF) (fun _ z => nomatch z) hb
    generalize upd H1 A.e (.dT kvs) = H2 at S2 gD2 hp2 ⊢
    clear S1 gD hp
    have hq2 := hq.same S2
    have O2 : Off A H H2 := Off.of S2
    refine ⟨_, rfl, _, .inl ⟨_, SqL.of gD2, rfl⟩, ?_⟩
    have due_ : s.due c = dueL c s.ents := rfl
    generalize erows : dueL c s.ents = rs at hp2 due_
    cases hp2 with
    | nil =>
      refine iteT (k .non H2 O2 ?_ ?_)
      · unfold QS.take QS.first; rw [due_]; exact hq2
      · unfold QS.first; rw [due_]
    | @cons p0 r0 ps rs h0 hp =>
      refine iteF ?_
      refine ⟨_, rfl, D, _, r0, rs, rfl, SqL.of gD2, .cons h0.dp (rows_dpA hp), fun i v ev er => ?_⟩
      have hall : Paired (RowAt H2) (p0 :: ps) (r0 :: rs) := .cons h0 hp
      obtain ⟨pi, epi, rfl⟩ : ∃ pi, (p0 :: ps)[i]? = some pi ∧ .ref pi = v := by
        rw [List.getElem?_map] at ev
        exact Option.map_eq_some_iff.mp ev
      obtain ⟨r, e1, x, q, hpi, hx, hqq⟩ := paired_get hall epi
      obtain rfl : r = W.minOf r0 rs := Option.some.inj (e1.symm.trans er)
      have mem_ : W.minOf r0 rs ∈ dueL c s.ents := by rw [erows]; exact mem_at er
      have first_ : s.first c = some (W.minOf r0 rs).2 := by unfold QS.first; rw [due_]
      generalize W.minOf r0 rs = r at mem_ first_ hx hqq
      clear e1 er erows due_ hall h0 hp epi
      refine ⟨pi, _, 1, .ref q, rfl, rfl, SqT.of hpi, atI_nat (j := 1) rfl, ?_⟩
      obtain ⟨kv2, ge2, rows2⟩ := hq2.ents
      have val_ : ∃ v, valV kv2 (kk r.2) = some v := by
        rcases rows2.get r.2 with ⟨n1, _⟩ | ⟨_, v, _, e2, _⟩
        · exact absurd (List.mem_map_of_mem (f := Prod.fst) (dueL_mem.mp mem_).1) (getS_none.mp n1)
        · exact ⟨v, e2⟩
      obtain ⟨v, val_⟩ := val_
      refine ⟨_, rfl, A.q, _, A.dx, _, _, rfl, hq2.ob, T.cl_Queue, T.no_Queue_entries, qF_entries, .inr (.inr (.inl ⟨rfl, .inr ⟨_, ge2⟩⟩)), _, rfl, A.e, q, kv2, kk r.2, v, rfl, rfl, ge2, hqq.key, val_, ?_⟩
      obtain ⟨q3, o3⟩ := hq2.setE (kvs0 := kv2) (rows2.drop r.2)
      have hq3 := hq2.sp o3 hqq
      generalize upd H2 A.e (.dT (dropK kv2 (kk r.2))) = H3 at q3 o3 hq3 ⊢
      obtain ⟨kv3, gt3, rows3⟩ := q3.taken
      refine ⟨_, rfl, A.q, _, A.dx, _, _, rfl, q3.ob, T.cl_Queue, T.no_Queue_taken, qF_taken, _, rfl, A.t, _, rfl, DPut.t gt3 hq3.key (by rw [rows3.length]; exact small5' (by have := few.t; show s.taken.length ≤ _; omega)), ?_⟩
      obtain ⟨q4, o4⟩ := q3.setT (rows3.put r.2 (v := .non) (a := none) rfl)
      have hq4 := q3.sp o4 hq3
      refine ⟨_, rfl, k _ _ ((O2.trans o3).trans o4) ?_ ?_⟩
      · unfold QS.take; rw [first_]; exact q4
      · rw [first_]; exact ⟨q, rfl, hq4⟩

/-! ### waiting, working, next_time, retry, the making -/
section
open PySem.W
def WaitAt (H : Hp) (L : Addr) (rs : List Row3) : Prop := ∃ ps : List Addr, H L = some (.lst (ps.map V.ref)) ∧ Paired (fun p (r : Row3) => ∃ q, H p = some (.tup [.int r.1.1, .ref q]) ∧ SpAt H q r.2) ps rs
def SpotsAt (H : Hp) (L : Addr) (ks : List Spot) : Prop := ∃ qs : List Addr, H L = some (.lst (qs.map V.ref)) ∧ Paired (SpAt H) qs ks
theorem zip_rows {H : Hp} : ∀ {ps : List Addr} {rs : List Row3}, Paired (RowAt H) ps rs → ∀ {v : V} {r : Row3}, (v, r) ∈ (ps.map V.ref).zip rs → ∃ p, v = .ref p ∧ RowAt H p r
  | _, _, .nil, _, _, h => nomatch h
  | _, _, .cons h0 t, v, r, h => by
    rw [List.map_cons, List.zip_cons_cons] at h
    rcases List.mem_cons.mp h with e | h
    · injection e with e1 e2
      subst e1; subst e2
      exact ⟨_, rfl, h0⟩
    · exact zip_rows t h
theorem out_rows {H : Hp} {T : V → Row3 → Prop} : ∀ {out : List V} {rs : List Row3}, Paired T out rs → (∀ v r, T v r → ∃ p, v = .ref p ∧ RowAt H p r) → ∃ ps : List Addr, out = ps.map V.ref ∧ Paired (RowAt H) ps rs
  | _, _, .nil, _ => ⟨[], rfl, .nil⟩
  | _, _, .cons h0 t, k => by
    obtain ⟨ps, e, hp⟩ := out_rows t k
    obtain ⟨p, rfl, h⟩ := k _ _ h0
    exact ⟨p :: ps, by rw [e]; rfl, .cons h hp⟩
theorem out_spots {H : Hp} : ∀ {out : List V} {ks : List Spot}, Paired (fun v k => ∃ q, v = V.ref q ∧ SpAt H q k) out ks → ∃ qs : List Addr, out = qs.map V.ref ∧ Paired (SpAt H) qs ks
  | _, _, .nil => ⟨[], rfl, .nil⟩
  | _, _, .cons ⟨q, e, h⟩ t => by
    obtain ⟨qs, e2, hq⟩ := out_spots t
    exact ⟨q :: qs, by rw [e, e2]; rfl, .cons h hq⟩
theorem rows_sable (rs : List Row3) : W.Sortable (rs.map Datum.toD) := .inl fun d hd => by
  obtain ⟨r, _, rfl⟩ := List.mem_map.mp hd
  exact ⟨_, _, rfl⟩
theorem srtD_len {α : Type} [DecidableEq α] [DatumOrd α] (xs : List α) : (srtD xs).length = xs.length := by unfold srtD; rw [List.length_mergeSort]
def QS.next (s : QS) : Option Int := match s.ents.map (·.2.1) with
  | [] => none
  | x :: xs => some (minOf x xs)
end
def sp_Queue_waiting (K : PySem.W.Frag) : Sp := fun vs H Q _ => ∃ (A : QA) (s : QS), vs = [.ref A.q] ∧ QAt K H A s ∧ Small s ∧ ∀ (L : Addr) (H' : Hp), H L = none → Same H H' → WaitAt H' L s.waiting → Q (.ref L) H'
theorem ok_Queue_waiting {P : Program} {w : World} {K : PySem.W.Frag} {mg : Str → Option Value} {base : Heap} {fd : FuncData} (T : Txt K mg w) (F : FunD K "waiting" "Queue.waiting" (defArgs s_Queue_waiting) (defBody s_Queue_waiting) (defScope s_Queue_waiting) [] [] (He.fAd K ("Queue", some "waiting")) fd) : FnOk P w K mg base CX0 1 (He.fAd K ("Queue", some "waiting")) fd ps_Queue_waiting (sp_Queue_waiting K) := by
  refine F.ok sc_Queue_waiting (fun vs H Q E h => ?len) (fun cdv A outer s H vs Q E hr h => ?body)
  case len => obtain ⟨A, s, rfl, hq, few, k⟩ := h; rfl
  case body =>
  obtain ⟨A, s, rfl, hq, few, k⟩ := h
  have hu := hu_of hr
  refine ⟨_, PSs.nox (pss_cons (ps_set (i := 1) sc_Queue_waiting.nd rfl (Or.inl rfl) (pe_callB (cr_sortD (α := ((Int × Int) × Spot)) hr.units (by decide)) (by rfl) T.n_sorted (by decide +kernel) (pa_cons (pe_lock (pe_lc (own := [("key", 2), ("entry", 3)]) (g := gTup K 2 (gCons (gName 2) (gCons (gName 3) gNil))) rfl sc_Queue_waiting.nd (pi_itemsT (pe_fld (pv 0) rfl)) (blkOk_by (own := [("key", 2), ("entry", 3)]) (N := N_Queue_waiting) (sc := defScope s_Queue_waiting) (by decide +kernel)) (fun _ _ _ _ _ => (pg_tup rfl (pgs_cons (pg_name (i := 2) sc_Queue_waiting.nd rfl (Or.inl rfl) (Or.inr rfl)) (pgs_cons (pg_name (i := 3) sc_Queue_waiting.nd rfl (Or.inl rfl) (Or.inr rfl)) pgs_nil)))) (fun _ _ _ _ _ => pts_nil) (fun _ _ _ _ _ => (pe_tup (pa_cons (pv 3) (pa_cons (pv 2) pa_nil)))))) pa_nil)))
    (pss_one (ps_ret (pe_lc (own := [("entry", 3), ("key", 2)]) (g := gTup K 2 (gCons (gName 3) (gCons (gName 2) gNil))) rfl sc_Queue_waiting.nd (pi_list (pv 1)) (blkOk_by (own := [("entry", 3), ("key", 2)]) (N := N_Queue_waiting) (sc := defScope s_Queue_waiting) (by decide +kernel)) (fun _ _ _ _ _ => (pg_tup rfl (pgs_cons (pg_name (i := 3) sc_Queue_waiting.nd rfl (Or.inl rfl) (Or.inr rfl)) (pgs_cons (pg_name (i := 2) sc_Queue_waiting.nd rfl (Or.inl rfl) (Or.inr rfl)) pgs_nil)))) (fun _ _ _ _ _ => pts_nil) (fun _ _ _ _ _ => (pe_tup (pa_cons (pe_ix (show IxR _ (rIxT K) from ix_tup) (pv 3) pe_int (fun _ _ => rfl)) (pa_cons (pv 2) pa_nil)))))))), ?_⟩
  obtain ⟨kvs, ge, rows⟩ := hq.ents
  refine ⟨A.e, _, ge, True.intro, fun od => ?_⟩
  have gF : (upd H A.e (.frz od (.dT kvs))) A.e = _ := upd_same
  have obF : (upd H A.e (.frz od (.dT kvs))) A.q = some (.ins (He.ga K "Queue") A.dx (qF A s.longest s.count)) := (upd_ne hq.cap.1).trans hq.ob
  refine ⟨_, rfl, A.q, _, A.dx, _, _, rfl, obF, T.cl_Queue, T.no_Queue_entries, qF_entries, A.e, od, kvs, rfl, gF, fun D hD => ?_⟩
  have nD : D ≠ A.e := fun z => by rw [z, gF] at hD; cases hD
  have lk := rows.length
  refine lc_it walk_itiT (fun i H' => Same (upd H A.e (.frz od (.dT kvs))) H' ∧ RowsAt H' D (rowsOf (s.ents.take i))) ⟨Same.new hD, [], upd_same, .nil⟩ (fun i H' _ p => p.1 _ _ gF) ?_ ?_
  · rintro i x H1 H2 hi ⟨S1, ps, gD, hp⟩ ⟨T, q, row, erow, rfl, hT, hq1, rfl⟩
    obtain ⟨e, ee, ek, p, ep, hpp⟩ := rows.at erow
    obtain ⟨rk, rv⟩ := row
    dsimp only at ek ep hq1
    subst ep
    subst ek
    rw [kk_kV] at hq1
    have hpe := S1 _ _ (lock_tup ge (fun _ z => nomatch z) hpp)
    have S2 := Same.new (u := .tup [.ref q, .ref p]) hT
    have gT : (upd H1 T (.tup [.ref q, .ref p])) T = _ := upd_same
    generalize upd H1 T (.tup [.ref q, .ref p]) = H2 at S2 gT ⊢
    refine ⟨T, _, rfl, SqT.of gT, rfl, _, _, rfl, _, _, rfl, rfl, rfl, yes_ (iteT ?_)⟩
    rw [get_take ee, rowsOf_snoc]
    refine ⟨_, rfl, _, rfl, smallN (by show 2 ≤ 1000; decide), fun t ht => ?_⟩
    have S3 := Same.new (u := .tup [.ref p, .ref q]) ht
    have gt3 : upd H2 t (.tup [.ref p, .ref q]) t = _ := upd_same
    generalize upd H2 t (.tup [.ref p, .ref q]) = H3 at S3 gt3 ⊢
    have gD3 := S3 _ _ (S2 _ _ gD)
    have lp := pair_len hp
    have back : ∀ b ys, H3 b = some (.tup ys) → upd H3 D (.lst (ps.map V.ref ++ [.ref t])) b = some (.tup ys) := fun b ys hb => (upd_ne (ne_of hb gD3 fun z => nomatch z)).trans hb
    refine ⟨_, gD3, small5' ?_, fun b o hb => ?_, ps ++ [t], ?_, Paired.snoc (pair_mono hp fun p' r hr => hr.keep fun b ys hb => back _ _ (S3 _ _ (S2 _ _ hb))) ⟨p, q, back _ _ gt3, back _ _ (S3 _ _ (S2 _ _ hpe)), back _ _ (S3 _ _ (S2 _ _ hq1))⟩⟩
    · rw [List.length_map, lp]
      unfold rowsOf
      rw [List.length_map, List.length_take]
      have := few.e
      omega
    · rw [upd_ne (ne_of_none hb hD)]; exact S3 _ _ (S2 _ _ (S1 _ _ hb))
    · rw [upd_same, List.map_append]; rfl
  · rintro H1 ⟨S1, ps, gD, hp⟩
    rw [lk, List.take_length] at hp
    refine ⟨S1 _ _ gF, ?_⟩
    have S2 := unlock_same ge S1
    have gD2 : upd H1 A.e (.dT kvs) D = some (.lst (ps.map V.ref)) := by rw [upd_ne nD]; exact gD
    have hp2 := pair_mono (G := RowAt (upd H1 A.e (.dT kvs))) hp fun p r hr => hr.keep fun b ys hb => lock_tup (S1 _ _ gF) (fun _ z => nomatch z) hb
    generalize upd H1 A.e (.dT kvs) = H2 at S2 gD2 hp2 ⊢
    clear S1 gD hp
    refine ⟨D, _, rowsOf s.ents, rfl, SqL.of gD2, rows_dpA hp2, rows_sable _, fun p out hpn po => ?_⟩
    obtain ⟨zs, rfl, hz⟩ := out_rows po fun v r h => zip_rows hp2 h
    have S3 := Same.new (u := .lst (zs.map V.ref)) hpn
    have gp : upd H2 p (.lst (zs.map V.ref)) p = _ := upd_same
    have hz := pair_mono (G := RowAt (upd H2 p (.lst (zs.map V.ref)))) hz fun p r hr => hr.keep fun b ys hb => S3 _ _ hb
    generalize upd H2 p (.lst (zs.map V.ref)) = H3 at S3 gp hz ⊢
    have S03 := S2.trans S3
    have lz : zs.length = s.ents.length := by rw [pair_len hz, srtD_len]; unfold rowsOf; rw [List.length_map]
    refine ⟨_, rfl, p, rfl, ⟨_, SqL.of gp⟩, fun D2 hD2 => ?_⟩
    have hLn : H D2 = none := by
      cases e : H D2 with
      | none => rfl
      | some o => rw [S03 _ _ e] at hD2; cases hD2
    refine lc_it (walk_list (xs := zs.map V.ref)) (fun i H' => Same H3 H' ∧ WaitAt H' D2 (s.waiting.take i)) ⟨Same.new hD2, [], upd_same, .nil⟩ (fun i H' _ p => SqL.of (p.1 _ _ gp)) ?_ ?_
    · rintro i x _ H4 hi ⟨S4, ps4, gD4, hp4⟩ ⟨rfl, ex⟩
      rw [List.getElem?_map] at ex
      obtain ⟨z, ez, rfl⟩ := Option.map_eq_some_iff.mp ex
      obtain ⟨r, er, y, q, hz1, hy, hqq⟩ := paired_get hz ez
      refine ⟨z, _, rfl, SqT.of (S4 _ _ hz1), rfl, _, _, rfl, _, _, rfl, rfl, rfl, yes_ (iteT ?_)⟩
      have er : s.waiting[i]? = some r := er
      rw [get_take er]
      refine ⟨_, rfl, y, _, 0, .int r.1.1, rfl, rfl, SqT.of (S4 _ _ hy), atI_nat (j := 0) rfl, _, rfl, smallN (by show 2 ≤ 1000; decide), fun t ht => ?_⟩
      have S5 := Same.new (u := .tup [.int r.1.1, .ref q]) ht
      have gt5 : upd H4 t (.tup [.int r.1.1, .ref q]) t = _ := upd_same
      generalize upd H4 t (.tup [.int r.1.1, .ref q]) = H5 at S5 gt5 ⊢
      have gD5 := S5 _ _ gD4
      have back : ∀ b ys, H5 b = some (.tup ys) → upd H5 D2 (.lst (ps4.map V.ref ++ [.ref t])) b = some (.tup ys) := fun b ys hb => (upd_ne (ne_of hb gD5 fun z => nomatch z)).trans hb
      refine ⟨_, gD5, small5' ?_, fun b o hb => ?_, ps4 ++ [t], ?_, Paired.snoc (pair_mono hp4 fun p' r ⟨q', a, b⟩ => ⟨q', back _ _ (S5 _ _ a), back _ _ (S5 _ _ b)⟩) ⟨q, back _ _ gt5, back _ _ (S5 _ _ (S4 _ _ hqq))⟩⟩
      · rw [List.length_map, pair_len hp4, List.length_take]
        rw [List.length_map] at hi
        have := few.e
        omega
      · rw [upd_ne (ne_of_none hb hD2)]; exact S5 _ _ (S4 _ _ hb)
      · rw [upd_same, List.map_append]; rfl
    · rintro H4 ⟨S4, w4⟩
      have lw : s.waiting.length = zs.length := (pair_len hz).symm
      rw [List.length_map, ← lw, List.take_length] at w4
      exact k D2 H4 hLn (S03.trans S4) w4
def sp_Queue_working (K : PySem.W.Frag) : Sp := fun vs H Q _ => ∃ (A : QA) (s : QS), vs = [.ref A.q] ∧ QAt K H A s ∧ (∀ e ∈ s.taken, okKey e.1 = true) ∧ ∀ (L : Addr) (H' : Hp), H L = none → Same H H' → SpotsAt H' L s.working → Q (.ref L) H'
theorem ok_full {k : Spot} (h : okKey k = true) : k.items ≠ [] := by
  obtain ⟨a, b, c, e, _⟩ := okKey_of h
  rw [e]; exact fun z => nomatch z
theorem ok_Queue_working {P : Program} {w : World} {K : PySem.W.Frag} {mg : Str → Option Value} {base : Heap} {fd : FuncData} (T : Txt K mg w) (F : FunD K "working" "Queue.working" (defArgs s_Queue_working) (defBody s_Queue_working) (defScope s_Queue_working) [] [] (He.fAd K ("Queue", some "working")) fd) : FnOk P w K mg base CX0 1 (He.fAd K ("Queue", some "working")) fd ps_Queue_working (sp_Queue_working K) := by
  refine F.ok sc_Queue_working (fun vs H Q E h => ?len) (fun cdv A outer s H vs Q E hr h => ?body)
  case len => obtain ⟨A, s, rfl, hq, oks, k⟩ := h; rfl
  case body =>
  obtain ⟨A, s, rfl, hq, oks, k⟩ := h
  have hu := hu_of hr
  refine ⟨_, PSs.nox (pss_one (ps_ret (pe_callB (cr_sortT rfl hr.units) (by rfl) T.n_sorted (by decide +kernel) (pa_cons (pe_fld (pv 0) rfl) pa_nil)))), ?_⟩
  obtain ⟨kvs, gt, rows⟩ := hq.taken
  refine ⟨_, rfl, A.q, _, A.dx, _, _, rfl, hq.ob, T.cl_Queue, T.no_Queue_taken, qF_taken, A.t, kvs, s.taken.map (·.1), rfl, gt, rows.keys, fun k hk => ?_, fun p out hp po => ?_⟩
  · obtain ⟨e, he, rfl⟩ := List.mem_map.mp hk
    exact ok_full (oks e he)
  · obtain ⟨qs, rfl, hqs⟩ := out_spots po
    exact k p _ hp (Same.new hp) ⟨qs, upd_same, pair_mono hqs fun q t h => (Same.new hp) _ _ h⟩
def sp_Queue_next_time (K : PySem.W.Frag) : Sp := fun vs H Q _ => ∃ (A : QA) (s : QS), vs = [.ref A.q] ∧ QAt K H A s ∧ Small s ∧ ∀ (H' : Hp), Same H H' → Q (oI s.next) H'
/-! ### retry, the making -/
theorem add_taken {s : QS} {k : Spot} {t : Int} {x : Option Int} (h : getS s.taken k = some x) : ∃ o, s.add k t = { s with taken := putS s.taken k (some o) } := by
  unfold QS.add
  rw [h]
  cases x with
  | none => exact ⟨_, rfl⟩
  | some u => exact ⟨_, rfl⟩
structure Few (s : QS) : Prop where
  e : s.ents.length < 50000
  t : s.taken.length < 50000
  d : s.delays.length < 50000
theorem Few.small {s : QS} (h : Few s) : Small s := ⟨by have := h.e; omega, by have := h.t; omega, by have := h.d; omega⟩
def sp_Queue_retry (K : PySem.W.Frag) : Sp := fun vs H Q _ => ∃ (A : QA) (s : QS) (kb : Addr) (k : Spot) (c : Int), vs = [.ref A.q, .ref kb, .int c] ∧ QAt K H A s ∧ SpAt H kb k ∧ okKey k = true ∧ (getS s.taken k).isSome = true ∧ 0 ≤ c ∧ 0 ≤ s.delay k ∧ Few s ∧ ∀ H', Off A H H' → QAt K H' A (s.retry k c) → Q .non H'
theorem ok_Queue_retry {P : Program} {w : World} {K : PySem.W.Frag} {mg : Str → Option Value} {base : Heap} {fd : FuncData} (T : Txt K mg w) (F : FunD K "retry" "Queue.retry" (defArgs s_Queue_retry) (defBody s_Queue_retry) (defScope s_Queue_retry) [] [] (He.fAd K ("Queue", some "retry")) fd) : FnOk P w K mg base CX0 56 (He.fAd K ("Queue", some "retry")) fd ps_Queue_retry (sp_Queue_retry K) := by
  obtain ⟨fd_Queue_check_taken, F_Queue_check_taken⟩ := T.d_Queue_check_taken
  have G_Queue_check_taken := ok_Queue_check_taken (P := P) (w := w) (base := base) T F_Queue_check_taken
  have k_Queue_check_taken := F_Queue_check_taken.kp
  have b_Queue_check_taken := bi_Queue_check_taken F_Queue_check_taken
  obtain ⟨fd_Queue_add, F_Queue_add⟩ := T.d_Queue_add
  have G_Queue_add := ok_Queue_add (P := P) (w := w) (base := base) T F_Queue_add
  have k_Queue_add := F_Queue_add.kp
  have b_Queue_add := bi_Queue_add F_Queue_add
  obtain ⟨fd_Queue_done, F_Queue_done⟩ := T.d_Queue_done
  have G_Queue_done := ok_Queue_done (P := P) (w := w) (base := base) T F_Queue_done
  have k_Queue_done := F_Queue_done.kp
  have b_Queue_done := bi_Queue_done F_Queue_done
  obtain ⟨fd_check_number, F_check_number⟩ := T.d_check_number
  have G_check_number := ok_check_number (P := P) (w := w) (base := base) T F_check_number
  have k_check_number := F_check_number.kp
  obtain ⟨ds_check_number, hd_check_number, b_check_number⟩ := bi_check_number F_check_number
  obtain ⟨fd_Queue_delay, F_Queue_delay⟩ := T.d_Queue_delay
  have G_Queue_delay := ok_Queue_delay (P := P) (w := w) (base := base) T F_Queue_delay
  have k_Queue_delay := F_Queue_delay.kp
  have b_Queue_delay := bi_Queue_delay F_Queue_delay
  refine F.ok sc_Queue_retry (fun vs H Q E h => ?len) (fun cdv A outer s H vs Q E hr h => ?body)
  case len => obtain ⟨A, s, kb, key, c, rfl, hq0, hk0, hok, there, hc, hd, few, k⟩ := h; rfl
  case body =>
  obtain ⟨A, s, kb, key, c, rfl, hq0, hk0, hok, there, hc, hd, few, k⟩ := h
  have hu := hu_of hr
  refine ⟨_, PSs.nox (pss_cons (ps_expr (pe_meth (pv 0) T.cl_Queue T.m_Queue_check_taken G_Queue_check_taken (hr.mono (by first | decide | omega)) b_Queue_check_taken .nil pass0 (pa_cons (pv 1) pa_nil)))
    (pss_cons (ps_expr (pe_call G_check_number (hr.mono (by first | decide | omega)) rfl T.g_check_number k_check_number b_check_number hd_check_number pass0 (pa_cons (pv 2) (pa_cons pe_str pa_nil))))
    (pss_cons (ps_expr (pe_meth (pv 0) T.cl_Queue T.m_Queue_add G_Queue_add (hr.mono (by first | decide | omega)) b_Queue_add .nil pass0 (pa_cons (pv 1) (pa_cons (pe_op op_add (pv 2) (pe_meth (pv 0) T.cl_Queue T.m_Queue_delay G_Queue_delay (hr.mono (by first | decide | omega)) b_Queue_delay .nil pass0 (pa_cons (pv 1) pa_nil))) pa_nil))))
    (pss_cons (ps_dput hu (pe_fld (pv 0) rfl) (pv 1) (pe_callB (call_min2 rfl) (by rfl) T.n_min (by decide +kernel) (pa_cons (pe_op op_mul pe_int (pe_meth (pv 0) T.cl_Queue T.m_Queue_delay G_Queue_delay (hr.mono (by first | decide | omega)) b_Queue_delay .nil pass0 (pa_cons (pv 1) pa_nil))) (pa_cons (pe_fld (pv 0) rfl) pa_nil))) rfl)
    (pss_one (ps_expr (pe_meth (pv 0) T.cl_Queue T.m_Queue_done G_Queue_done (hr.mono (by first | decide | omega)) b_Queue_done .nil pass0 (pa_cons (pv 1) pa_nil)))))))), ?_⟩
  have hu := hu_of hr
  obtain ⟨x, hx⟩ := Option.isSome_iff_exists.mp there
  refine ⟨_, rfl, A.q, A.dx, _, rfl, hq0.ob, qF_no (by decide +kernel), _, rfl, A, s, kb, key, rfl, hq0, hk0, hok, there, fun H1 S1 => ?_⟩
  have hq := hq0.same S1
  have hk := hk0.same S1
  have O1 : Off A H H1 := Off.of S1
  refine ⟨_, rfl, c, _, rfl, hc, ?_⟩
  refine ⟨_, rfl, A.q, A.dx, _, rfl, hq.ob, qF_no (by decide +kernel), _, rfl, _, rfl, _, rfl, A.q, A.dx, _, rfl, hq.ob, qF_no (by decide +kernel), _, rfl, A, s, kb, key, rfl, hq, hk, hok, fun H2 S2 => ?_⟩
  have hq2 := hq.same S2
  have hk2 := hk.same S2
  have O2 : Off A H H2 := O1.trans (Off.of S2)
  refine ⟨_, _, rfl, rfl, A, s, kb, key, _, rfl, hq2, hk2, hok, by omega, few.small, fun H3 O3 q3 => ?_⟩
  obtain ⟨o, eo⟩ := add_taken (t := c + s.delay key) hx
  have hk3 := hq2.sp O3 hk2
  have delay_ : (s.add key (c + s.delay key)).delay key = s.delay key := by rw [eo]; rfl
  have long_ : (s.add key (c + s.delay key)).longest = s.longest := by rw [eo]
  refine ⟨_, rfl, A.q, A.dx, _, rfl, q3.ob, qF_no (by decide +kernel), _, rfl, A, _, kb, key, rfl, q3, hk3, hok, fun H4 S4 => ?_⟩
  have q4 := q3.same S4
  have hk4 := hk3.same S4
  have O4 : Off A H H4 := (O2.trans O3).trans (Off.of S4)
  obtain ⟨kvs, gd, rows⟩ := q4.delays
  refine ⟨_, _, rfl, rfl, .inl ⟨by decide, by decide⟩, _, rfl, A.q, _, A.dx, _, _, rfl, q4.ob, T.cl_Queue, T.no_Queue_longest, qF_longest, _, _, rfl, ?_⟩
  refine ⟨_, rfl, A.q, _, A.dx, _, _, rfl, q4.ob, T.cl_Queue, T.no_Queue_delays, qF_delays, _, rfl, A.d, _, rfl, DPut.t gd hk4.key (by rw [rows.length]; exact small5' (by rw [eo]; have := few.d; show s.delays.length ≤ _; omega)), ?_⟩
  obtain ⟨q5, o5⟩ := q4.setD (rows.put key (v := .int (minPy (2 * (s.add key (c + s.delay key)).delay key) (s.add key (c + s.delay key)).longest)) (a := minPy (2 * (s.add key (c + s.delay key)).delay key) (s.add key (c + s.delay key)).longest) rfl)
  have hk5 := q4.sp o5 hk4
  refine ⟨_, rfl, A.q, A.dx, _, rfl, q5.ob, qF_no (by decide +kernel), _, rfl, A, (s.add key (c + s.delay key)).slow key, kb, key, rfl, q5, hk5, hok, ?_, ?_, fun H6 O6 q6 => k H6 ((O4.trans o5).trans O6) q6⟩
  · rw [eo]
    show (getS (putS s.taken key (some o)) key).isSome = true
    rw [getS_put, if_pos rfl]; rfl
  · rw [eo]
    refine ⟨?_, ?_, ?_⟩
    · show s.ents.length < _; have := few.e; omega
    · show (putS s.taken key _).length < _; have := few.t; have := putS_len s.taken key (some o); omega
    · show (putS s.delays key _).length < _
      exact Nat.lt_of_le_of_lt (putS_len _ _ _) (by have := few.d; omega)
abbrev QInit (K : PySem.W.Frag) (fd : FuncData) : Prop := FunD K "__init__" "Queue.__init__" (defArgs s_Queue___init__) (defBody s_Queue___init__) (defScope s_Queue___init__) [] [("most", .int 1)] (He.fAd K ("Queue", some "__init__")) fd
theorem bk_Queue___init__ {K : PySem.W.Frag} {fd : FuncData} (F : QInit K fd) : ∃ mv : List Value, KBn K fd ps_Queue___init__ 1 ["most"] (fun us ws => us ++ ws) (fun vs zs => vs ++ zs) :=
  FunD.kbinds0 F 1 ["most"] [] (fun us mv ws => us ++ ws) (fun z => nomatch z) (fun q h => nomatch h) (fun a _ c => a.append c) (fun D doc pm an cdv ct us mv ws l1 l2 l3 => match us, mv, ws, l1, l2, l3 with | [_], [], [_], _, _, _ => rfl)
theorem bk0_Queue___init__ {K : PySem.W.Frag} {fd : FuncData} (F : QInit K fd) : ∃ mv : List Value, KBn K fd ps_Queue___init__ 1 [] (fun us ws => us ++ mv) (fun vs zs => vs ++ [V.int 1]) :=
  FunD.kbinds0 F 1 [] [("most", .int 1)] (fun us mv ws => us ++ mv) (fun z => nomatch z) (fun q h => h) (fun a b _ => a.append b) (fun D doc pm an cdv ct us mv ws l1 l2 l3 => match us, mv, ws, l1, l2, l3 with | [_], [_], [], _, _, _ => ⟨_, _, _, _, _, _, rfl, rfl, rfl⟩)
def sp_Queue___init__ (K : PySem.W.Frag) : Sp := fun vs H Q _ => ∃ (q dx : Addr) (m : Int), vs = [.ref q, .int m] ∧ H q = some (.ins (He.ga K "Queue") dx []) ∧ 1 ≤ m ∧ m ≤ 1000 ∧
  ∀ (A : QA) (H' : Hp), A.q = q → H A.e = none → H A.t = none → H A.d = none → (∀ b o, H b = some o → b ≠ q → H' b = some o) → QAt K H' A (QS.new m) → Q .non H'
theorem putF_len (f : Str) (v : V) : ∀ fs : List (Str × V), (putF f v fs).length ≤ fs.length + 1
  | [] => Nat.le_refl _
  | (g, x) :: r => by
    show (if g = f then (g, v) :: r else (g, x) :: putF f v r).length ≤ _
    split
    · simp
    · have := putF_len f v r
      simp only [List.length_cons]; omega
theorem lt_put {f : Str} {v : V} {fs : List (Str × V)} {n : Nat} (h : fs.length < n) : (putF f v fs).length < n + 1 := by have := putF_len f v fs; omega
theorem init_step {H1 H2 : Hp} {q d : Addr} {u o o' : HO} (e : upd (upd H1 d o) q o' = H2) (g : H1 q = some u) (hd : H1 d = none) : H2 q = some o' ∧ H2 d = some o ∧ (∀ b x, H1 b = some x → b ≠ q → H2 b = some x) ∧ ∀ b, H2 b = none → H1 b = none := by
  have n : q ≠ d := ne_of_none g hd
  subst e
  refine ⟨upd_same, by rw [upd_ne n.symm, upd_same], fun b x hb nb => by rw [upd_ne nb, upd_ne (ne_of_none hb hd)]; exact hb, fun b hb => ?_⟩
  by_cases z : b = q
  · rw [z, upd_same] at hb; cases hb
  · rw [upd_ne z] at hb
    by_cases y : b = d
    · rw [y]; exact hd
    · rw [upd_ne y] at hb; exact hb
theorem ok_Queue___init__ {P : Program} {w : World} {K : PySem.W.Frag} {mg : Str → Option Value} {base : Heap} {fd : FuncData} (T : Txt K mg w) (F : FunD K "__init__" "Queue.__init__" (defArgs s_Queue___init__) (defBody s_Queue___init__) (defScope s_Queue___init__) [] [("most", .int 1)] (He.fAd K ("Queue", some "__init__")) fd) : FnOk P w K mg base CX0 2 (He.fAd K ("Queue", some "__init__")) fd ps_Queue___init__ (sp_Queue___init__ K) := by
  obtain ⟨fd_is_integer, F_is_integer⟩ := T.d_is_integer
  have G_is_integer := ok_is_integer (P := P) (w := w) (base := base) T F_is_integer
  have k_is_integer := F_is_integer.kp
  have b_is_integer := bi_is_integer F_is_integer
  obtain ⟨t_MOST_DELAY, h_MOST_DELAY⟩ := T.c_MOST_DELAY
  refine F.ok sc_Queue___init__ (fun vs H Q E h => ?len) (fun cdv A outer s H vs Q E hr h => ?body)
  case len => obtain ⟨q, dx, m, rfl, hq, h1, h2, k⟩ := h; rfl
  case body =>
  obtain ⟨q, dx, m, rfl, hq, h1, h2, k⟩ := h
  have hu := hu_of hr
  refine ⟨_, PSs.nox (pss_cons (ps_if (PW.pt (pw_or (pt_not (pt_val (pe_call G_is_integer (hr.mono (by first | decide | omega)) rfl T.g_is_integer k_is_integer b_is_integer .nil pass0 (pa_cons (pv 1) pa_nil)))) (pw_or1 (pt_not (pt_chain op_le op_le pe_int (pv 1) (pe_glob (v := .int 1000) rfl h_MOST_DELAY ⟨_, rfl⟩)))))) (pss_one ps_never) pss_nil)
    (pss_cons (ps_fld (pv 0) (pv 1) rfl)
    (pss_cons (ps_fld (pv 0) pe_dnewT rfl)
    (pss_cons (ps_fld (pv 0) pe_dnewT rfl)
    (pss_cons (ps_fld (pv 0) pe_dnewT rfl)
    (pss_one (ps_fld (pv 0) pe_int rfl))))))), ?_⟩
  refine ⟨_, rfl, .int m, rfl, .inl trivial, ⟨_, rfl, iteF ?_⟩⟩
  refine ⟨_, rfl, _, _, rfl, rfl, _, rfl, ite2 (fun _ => ⟨_, _, rfl, rfl, _, rfl, ?_⟩) (fun h => absurd (decide_eq_true h1) h)⟩
  rw [decide_eq_true h2]
  refine iteF ⟨_, rfl, _, rfl, q, _, dx, [], rfl, hq, T.cl_Queue, T.no_Queue_longest, (by show 0 < 1000; decide), ?_⟩
  have g1 : upd H q (.ins (He.ga K "Queue") dx (putF "longest" (.int m) [])) q = _ := upd_same
  have k1 : ∀ b o, H b = some o → b ≠ q → upd H q (.ins (He.ga K "Queue") dx (putF "longest" (.int m) [])) b = some o := fun b o e n => by rw [upd_ne n]; exact e
  have z1 : ∀ b, upd H q (.ins (He.ga K "Queue") dx (putF "longest" (.int m) [])) b = none → H b = none := fun b e => by
    by_cases z : b = q
    · rw [z, upd_same] at e; cases e
    · rw [upd_ne z] at e; exact e
  generalize upd H q (.ins (He.ga K "Queue") dx (putF "longest" (.int m) [])) = H1 at g1 k1 z1 ⊢
  intro de hde
  refine ⟨_, rfl, q, _, dx, _, rfl, (by rw [upd_ne (ne_of_none g1 hde)]; exact g1), T.cl_Queue, T.no_Queue_entries, (by show 1 < 1000; decide), ?_⟩
  generalize e2 : upd (upd H1 de (.dT [])) q _ = H2
  obtain ⟨g2, ge2, k2, z2⟩ := init_step e2 g1 hde
  intro dt hdt
  refine ⟨_, rfl, q, _, dx, _, rfl, (by rw [upd_ne (ne_of_none g2 hdt)]; exact g2), T.cl_Queue, T.no_Queue_taken, (Nat.lt_trans (lt_put (lt_put (n := 1) (by show 0 < 1; decide))) (by decide)), ?_⟩
  generalize e3 : upd (upd H2 dt (.dT [])) q _ = H3
  obtain ⟨g3, gt3, k3, z3⟩ := init_step e3 g2 hdt
  intro dd hdd
  refine ⟨_, rfl, q, _, dx, _, rfl, (by rw [upd_ne (ne_of_none g3 hdd)]; exact g3), T.cl_Queue, T.no_Queue_delays, (Nat.lt_trans (lt_put (lt_put (lt_put (n := 1) (by show 0 < 1; decide)))) (by decide)), ?_⟩
  generalize e4 : upd (upd H3 dd (.dT [])) q _ = H4
  obtain ⟨g4, gd4, k4, z4⟩ := init_step e4 g3 hdd
  refine ⟨_, rfl, q, _, dx, _, rfl, g4, T.cl_Queue, T.no_Queue_count, ?_, ?_⟩
  · exact Nat.lt_trans (lt_put (lt_put (lt_put (lt_put (n := 1) (by show 0 < 1; decide))))) (by decide)
  · have net : de ≠ dt := ne_of_none ge2 hdt
    have ge3 := k3 _ _ ge2 (ne_of ge2 g2 fun z => nomatch z)
    have ned : de ≠ dd := ne_of_none ge3 hdd
    have ntd : dt ≠ dd := ne_of_none gt3 hdd
    have nq : ∀ {b : Addr} {x : List (List Key × V)}, H4 b = some (.dT x) → b ≠ q := fun hb => ne_of hb g4 fun z => nomatch z
    have ge4 := k4 _ _ ge3 (ne_of ge3 g3 fun z => nomatch z)
    have gt4 := k4 _ _ gt3 (ne_of gt3 g3 fun z => nomatch z)
    refine k ⟨q, dx, de, dt, dd⟩ _ rfl (z1 _ hde) (z1 _ (z2 _ hdt)) (z1 _ (z2 _ (z3 _ hdd))) (fun b o hb nb => ?_) ⟨?_, ⟨[], ?_, .nil⟩, ⟨[], ?_, .nil⟩, ⟨[], ?_, .nil⟩, net, ned, ntd⟩
    · rw [upd_ne nb]; exact k4 _ _ (k3 _ _ (k2 _ _ (k1 _ _ hb nb) nb) nb) nb
    · rw [upd_same]
      exact congrArg (fun l => some (HO.ins (He.ga K "Queue") dx l)) (qF_made (A := ⟨q, dx, de, dt, dd⟩) (l := m) (c := 0))
    · rw [upd_ne (nq ge4)]; exact ge4
    · rw [upd_ne (nq gt4)]; exact gt4
    · rw [upd_ne (nq gd4)]; exact gd4

/-! ### == and != of two values of one Lean type -/
section
open PySem.W
variable {X : Cx}
def rEqX (K : PySem.W.Frag) (tell : Bool → Bool) : R2 := fun x y H Q => ∃ (α : Type) (_ : DecidableEq α) (_ : Datum α) (a b : α), Datum.depth α ≤ 40 ∧ Dp K H x (Datum.toD a) ∧ Dp K H y (Datum.toD b) ∧ Q (.bl (tell (decide (a = b)))) H
theorem op_eqX (hu : X.A.units + 64 < cLine) : OpR X (compareOp .Eq) (rEqX X.K id) := fun pins s σ H x y v u Q I rx ry ⟨α, _, _, a, b, deep, da, db, told⟩ => by
  have ha : Holds s.heap v a := Dp.reads I _ _ _ da rx
  have hb : Holds s.heap u b := Dp.reads I _ _ _ db ry
  exact eq_datum ha hb (by omega) ⟨.bl _, H, I, rfl, told⟩
theorem op_neX (hu : X.A.units + 64 < cLine) : OpR X (compareOp .NotEq) (rEqX X.K not) := fun pins s σ H x y v u Q I rx ry ⟨α, _, _, a, b, deep, da, db, told⟩ => by
  have ha : Holds s.heap v a := Dp.reads I _ _ _ da rx
  have hb : Holds s.heap u b := Dp.reads I _ _ _ db ry
  exact ne_datum ha hb (by omega) ⟨.bl _, H, I, rfl, by rw [decide_not]; exact told⟩
end

/-! ### the order of rows -/
section
open PySem.W
section
variable {α : Type} [DecidableEq α] [DatumOrd α]
theorem leD_tot : TotalLe (leD (α := α)) := leD_eq (α := α) ▸ sortLe_total _ false _
theorem leD_trans {a b c : α} (h : leD a b = true) (g : leD b c = true) : leD a c = true := leD_tot.trans a b c h g
theorem leD_or (a b : α) : leD a b = true ∨ leD b a = true := by
  have := leD_tot.total a b
  simpa using this
theorem leD_refl (a : α) : leD a a = true := (leD_or a a).elim id id
theorem srtD_perm (xs : List α) : (srtD xs).Perm xs := List.mergeSort_perm xs leD
theorem srtD_sorted (xs : List α) : (srtD xs).Pairwise (fun a b => leD a b = true) := List.pairwise_mergeSort (le := leD) (fun a b c h g => leD_trans h g) (fun a b => by simpa using leD_or a b) xs
/-- one order, where no two are alike -/
theorem srtD_one {xs ys : List α} (anti : ∀ a ∈ xs, ∀ b ∈ xs, leD a b = true → leD b a = true → a = b) (p : ys.Perm xs) (s : ys.Pairwise (fun a b => leD a b = true)) : ys = srtD xs :=
  List.Perm.eq_of_pairwise (le := fun a b => leD a b = true) (fun a b ha hb h g => anti a (p.mem_iff.mp ha) b ((srtD_perm xs).mem_iff.mp hb) h g) s (srtD_sorted xs) (p.trans (srtD_perm xs).symm)
theorem minOf_step (x y : α) (ys : List α) : minOf x (y :: ys) = minOf (if DatumOrd.lt y x = true then y else x) ys := rfl
theorem minOf_least : ∀ (xs : List α) (x : α), minOf x xs ∈ x :: xs ∧ ∀ y ∈ x :: xs, leD (minOf x xs) y = true
  | [], x => ⟨List.mem_cons_self, fun y hy => by rw [List.mem_singleton.mp hy]; exact leD_refl x⟩
  | z :: xs, x => by
    rw [minOf_step]
    by_cases h : DatumOrd.lt z x = true
    · rw [if_pos h]
      obtain ⟨m, l⟩ := minOf_least xs z
      have zx : leD z x = true := (leD_or z x).elim id fun g => by
        have : leD x z = false := by show (!DatumOrd.lt z x) = false; rw [h]; rfl
        rw [this] at g; cases g
      refine ⟨List.mem_cons_of_mem _ m, fun y hy => ?_⟩
      rcases List.mem_cons.mp hy with e | hy
      · rw [e]; exact leD_trans (l z List.mem_cons_self) zx
      · exact l y hy
    · rw [if_neg h]
      obtain ⟨m, l⟩ := minOf_least xs x
      have xz : leD x z = true := by show (!DatumOrd.lt z x) = true; rw [Bool.not_eq_true] at h; rw [h]; rfl
      refine ⟨?_, fun y hy => ?_⟩
      · rcases List.mem_cons.mp m with e | e
        · rw [e]; exact List.mem_cons_self
        · exact List.mem_cons_of_mem _ (List.mem_cons_of_mem _ e)
      · rcases List.mem_cons.mp hy with e | hy
        · rw [e]; exact l x List.mem_cons_self
        · rcases List.mem_cons.mp hy with e | hy
          · rw [e]; exact leD_trans (l x List.mem_cons_self) xz
          · exact l y (List.mem_cons_of_mem _ hy)
end
/-- two rows with other counts: by time, then by count -/
def rlt (p q : Row3) : Prop := p.1.1 < q.1.1 ∨ (p.1.1 = q.1.1 ∧ p.1.2 < q.1.2)
theorem lt_pair {a b : Int × Int} : DatumOrd.lt a b = (if a.1 = b.1 then decide (a.2 < b.2) else decide (a.1 < b.1)) := rfl
theorem le_rlt {p q : Row3} (h : rlt p q) : leD p q = true := by
  have n : ¬ q.1 = p.1 := fun e => by
    unfold rlt at h; rw [e] at h; omega
  show (!(if q.1 = p.1 then DatumOrd.lt q.2 p.2 else DatumOrd.lt q.1 p.1)) = true
  rw [if_neg n, lt_pair]
  unfold rlt at h
  by_cases e : q.1.1 = p.1.1
  · rw [if_pos e, Bool.not_eq_true', decide_eq_false_iff_not]; omega
  · rw [if_neg e, Bool.not_eq_true', decide_eq_false_iff_not]; omega
theorem rlt_of {p q : Row3} (n : p.1.2 ≠ q.1.2) (h : leD p q = true) : rlt p q := by
  have n1 : ¬ q.1 = p.1 := fun e => n (by rw [e])
  have h : (!(if q.1 = p.1 then DatumOrd.lt q.2 p.2 else DatumOrd.lt q.1 p.1)) = true := h
  rw [if_neg n1, lt_pair] at h
  unfold rlt
  by_cases e : q.1.1 = p.1.1
  · rw [if_pos e, Bool.not_eq_true', decide_eq_false_iff_not] at h; omega
  · rw [if_neg e, Bool.not_eq_true', decide_eq_false_iff_not] at h; omega
/-- what holds of a queue between two calls -/
structure Good (s : QS) : Prop where
  once : (s.ents.map (·.1)).Nodup
  cnt : (s.ents.map (·.2.2)).Nodup
  le : ∀ e ∈ s.ents, e.2.2 ≤ s.count
theorem cnt_inj {es : List (Spot × (Int × Int))} (h : (es.map (·.2.2)).Nodup) {e f : Spot × (Int × Int)} (he : e ∈ es) (hf : f ∈ es) (q : e.2.2 = f.2.2) : e = f := by
  induction es with
  | nil => cases he
  | cons x r more =>
    rw [List.map_cons, List.nodup_cons] at h
    rcases List.mem_cons.mp he with e1 | e1
    · rcases List.mem_cons.mp hf with f1 | f1
      · rw [e1, f1]
      · exact absurd (by rw [← e1, q]; exact List.mem_map_of_mem (f := fun e : Spot × (Int × Int) => e.2.2) f1) h.1
    · rcases List.mem_cons.mp hf with f1 | f1
      · exact absurd (by rw [← f1, ← q]; exact List.mem_map_of_mem (f := fun e : Spot × (Int × Int) => e.2.2) e1) h.1
      · exact more h.2 e1 f1
theorem rows_mem {es : List (Spot × (Int × Int))} {r : Row3} : r ∈ rowsOf es ↔ (r.2, r.1) ∈ es := by
  unfold rowsOf
  rw [List.mem_map]
  exact ⟨fun ⟨e, he, q⟩ => by rw [← q]; exact he, fun h => ⟨_, h, rfl⟩⟩
theorem rows_anti {es : List (Spot × (Int × Int))} (h : (es.map (·.2.2)).Nodup) : ∀ a ∈ rowsOf es, ∀ b ∈ rowsOf es, leD a b = true → leD b a = true → a = b := fun a ha b hb h1 h2 => by
  by_cases e : a.1.2 = b.1.2
  · have := cnt_inj h (rows_mem.mp ha) (rows_mem.mp hb) e
    injection this with q1 q2
    exact Prod.ext q2 q1
  · have g1 := rlt_of e h1
    have g2 := rlt_of (Ne.symm e) h2
    unfold rlt at g1 g2
    omega
/-- the rows in their order are told by being in order -/
theorem waiting_is {s : QS} (g : (s.ents.map (·.2.2)).Nodup) {ws : List Row3} (p : ws.Perm (rowsOf s.ents)) (o : ws.Pairwise rlt) : ws = s.waiting := srtD_one (rows_anti g) p (o.imp le_rlt)
theorem waiting_perm (s : QS) : s.waiting.Perm (rowsOf s.ents) := srtD_perm _
theorem waiting_rlt {s : QS} (g : (s.ents.map (·.2.2)).Nodup) : s.waiting.Pairwise rlt := by
  have nd : (s.waiting.map (·.1.2)).Nodup := by
    refine ((waiting_perm s).map (·.1.2)).nodup_iff.mpr ?_
    unfold rowsOf; rw [List.map_map]; exact g
  have nd : s.waiting.Pairwise (fun a b => a.1.2 ≠ b.1.2) := by
    have := nd; unfold List.Nodup at this; rwa [List.pairwise_map] at this
  have so : s.waiting.Pairwise (fun a b => leD a b = true) := srtD_sorted _
  exact (nd.and so).imp fun ⟨n, h⟩ => rlt_of n h
/-- the list of the law: moments and spots, in order -/
abbrev WR := List (Int × Spot)
def wr (s : QS) : WR := s.waiting.map fun r => (r.1.1, r.2)
def behind (rs : WR) (t : Int) : Nat := (rs.filter fun r => decide (r.1 ≤ t)).length
def offK (rs : WR) (k : Spot) : WR := rs.filter fun r => decide (¬ r.2 = k)
def insAt (rs : WR) (k : Spot) (t : Int) : WR := rs.take (behind rs t) ++ [(t, k)] ++ rs.drop (behind rs t)
def knownL (rs : WR) (k : Spot) : WR := rs.filter fun r => decide (r.2 = k)
def enterL (rs : WR) (k : Spot) (t : Int) : WR := match knownL rs k with
  | r :: _ => if r.1 ≤ t then rs else insAt (offK rs k) k t
  | [] => insAt (offK rs k) k t
/-- in a list in order the early ones stand ahead -/
theorem cut_le {t : Int} : ∀ {ws : List Row3}, ws.Pairwise rlt → (∀ r ∈ ws.take ((ws.filter fun r => decide (r.1.1 ≤ t)).length), r.1.1 ≤ t) ∧ ∀ r ∈ ws.drop ((ws.filter fun r => decide (r.1.1 ≤ t)).length), t < r.1.1
  | [], _ => ⟨fun r h => (nomatch h), fun r h => (nomatch h)⟩
  | w :: ws, h => by
    rw [List.pairwise_cons] at h
    obtain ⟨a, b⟩ := cut_le (t := t) h.2
    by_cases q : w.1.1 ≤ t
    · rw [List.filter_cons_of_pos (by simpa using q), List.length_cons, List.take_succ_cons, List.drop_succ_cons]
      exact ⟨fun r hr => (List.mem_cons.mp hr).elim (fun e => e ▸ q) (a r), b⟩
    · have none_ : ws.filter (fun r => decide (r.1.1 ≤ t)) = [] := List.filter_eq_nil_iff.mpr fun r hr => by
        have := h.1 r hr
        unfold rlt at this
        simp only [decide_eq_true_eq]
        omega
      rw [List.filter_cons_of_neg (by simpa using q), none_]
      refine ⟨fun r hr => (nomatch hr), fun r hr => ?_⟩
      rcases List.mem_cons.mp hr with e | hr
      · rw [e]; omega
      · have := h.1 r hr
        unfold rlt at this
        omega
theorem pairwise_mid {α : Type} {R : α → α → Prop} {xs ys : List α} {z : α} (h : (xs ++ ys).Pairwise R) (h1 : ∀ x ∈ xs, R x z) (h2 : ∀ y ∈ ys, R z y) : (xs ++ [z] ++ ys).Pairwise R := by
  rw [List.pairwise_append] at h
  obtain ⟨a, b, c⟩ := h
  rw [List.append_assoc, List.pairwise_append]
  refine ⟨a, List.pairwise_cons.mpr ⟨h2, b⟩, fun x hx y hy => ?_⟩
  rcases List.mem_cons.mp hy with e | hy
  · rw [e]; exact h1 x hx
  · exact c x hx y hy
theorem rows_put_perm {es : List (Spot × (Int × Int))} {k : Spot} {x : Int × Int} (nd : (es.map (·.1)).Nodup) : (rowsOf (putS es k x)).Perm ((x, k) :: (rowsOf es).filter fun r => decide (¬ r.2 = k)) := by
  have drop_ : (rowsOf es).filter (fun r => decide (¬ r.2 = k)) = rowsOf (dropS es k) := by
    unfold rowsOf dropS
    rw [List.filter_map]
    rfl
  rw [drop_]
  have : (putS es k x).Perm ((k, x) :: dropS es k) := by
    refine (List.perm_ext_iff_of_nodup ?_ ?_).mpr fun e => ?_
    · exact List.Pairwise.of_map (fun e : Spot × (Int × Int) => e.1) (fun a b h e => h (by rw [e])) (putS_nodup (a := x) (k := k) nd)
    · refine List.nodup_cons.mpr ⟨fun h => (dropS_mem.mp h).2 rfl, ?_⟩
      exact List.Pairwise.of_map (fun e : Spot × (Int × Int) => e.1) (fun a b h e => h (by rw [e])) (dropS_nodup (k := k) nd)
    · have nd2 := putS_nodup (a := x) (k := k) nd
      constructor
      · intro he
        have g := getS_of nd2 he
        rw [getS_put] at g
        by_cases q : e.1 = k
        · rw [if_pos q] at g
          cases g
          rw [← q]; exact List.mem_cons_self
        · rw [if_neg q] at g
          exact List.mem_cons_of_mem _ (dropS_mem.mpr ⟨getS_mem g, q⟩)
      · intro he
        have key : getS (putS es k x) e.1 = some e.2 := by
          rw [getS_put]
          rcases List.mem_cons.mp he with q | q
          · rw [q]; exact if_pos rfl
          · obtain ⟨a, b⟩ := dropS_mem.mp q
            rw [if_neg b]; exact getS_of nd a
        exact getS_mem key
  exact this.map _
theorem Good.bump {s : QS} (g : Good s) (k : Spot) (t : Int) : Good (s.bump k t) := by
  refine ⟨putS_nodup g.once, ?_, fun e he => ?_⟩
  · have p := (rows_put_perm (x := (t, s.count + 1)) (k := k) g.once).map (·.1.2)
    have e1 : (rowsOf (putS s.ents k (t, s.count + 1))).map (·.1.2) = (putS s.ents k (t, s.count + 1)).map (·.2.2) := by unfold rowsOf; rw [List.map_map]; rfl
    rw [e1] at p
    refine p.nodup_iff.mpr ?_
    rw [List.map_cons, List.nodup_cons]
    refine ⟨fun h => ?_, ?_⟩
    · obtain ⟨r, hr, e⟩ := List.mem_map.mp h
      have low : r.1.2 ≤ s.count := g.le _ (rows_mem.mp (List.mem_filter.mp hr).1)
      have e : r.1.2 = s.count + 1 := e
      omega
    · refine List.Nodup.sublist (List.Sublist.map _ (List.filter_sublist ..)) ?_
      unfold rowsOf; rw [List.map_map]; exact g.cnt
  · show e.2.2 ≤ s.count + 1
    have key := getS_of (putS_nodup (a := (t, s.count + 1)) (k := k) g.once) he
    rw [getS_put] at key
    by_cases q : e.1 = k
    · rw [if_pos q] at key
      have : (t, s.count + 1) = e.2 := Option.some.inj key
      rw [← this]; exact Int.le_refl _
    · rw [if_neg q] at key
      have := g.le _ (getS_mem key)
      have this : e.2.2 ≤ s.count := this
      omega
theorem map_filter {α β : Type} (f : α → β) (p : β → Bool) (xs : List α) : (xs.map f).filter p = (xs.filter fun x => p (f x)).map f := by rw [List.filter_map]; rfl
theorem off_wr (ws : List Row3) (k : Spot) : offK (ws.map fun r => (r.1.1, r.2)) k = (ws.filter fun r => decide (¬ r.2 = k)).map fun r => (r.1.1, r.2) := by unfold offK; rw [map_filter]
theorem ins_wr (ws : List Row3) (k : Spot) (t c : Int) : insAt (ws.map fun r => (r.1.1, r.2)) k t = (ws.take ((ws.filter fun r => decide (r.1.1 ≤ t)).length) ++ [((t, c), k)] ++ ws.drop ((ws.filter fun r => decide (r.1.1 ≤ t)).length)).map fun r => (r.1.1, r.2) := by
  unfold insAt behind
  rw [map_filter, List.length_map, List.map_append, List.map_append, List.map_take, List.map_drop]
  rfl
theorem wr_bump {s : QS} (g : Good s) (k : Spot) (t : Int) : wr (s.bump k t) = insAt (offK (wr s) k) k t := by
  unfold wr
  rw [off_wr, ins_wr _ k t (s.count + 1)]
  have o := (waiting_rlt g.cnt).filter fun r => decide (¬ r.2 = k)
  have p0 := (waiting_perm s).filter fun r => decide (¬ r.2 = k)
  generalize s.waiting.filter (fun r => decide (¬ r.2 = k)) = ws at o p0
  refine congrArg (List.map _) (waiting_is (g.bump k t).cnt ?_ ?_).symm
  · refine List.Perm.trans ?_ (rows_put_perm g.once).symm
    refine List.Perm.trans ?_ (p0.cons _)
    rw [List.append_assoc]
    refine List.perm_middle.trans ?_
    show (_ :: (ws.take _ ++ ws.drop _)).Perm _
    rw [List.take_append_drop]
  · obtain ⟨a, b⟩ := cut_le (t := t) o
    have cs : ∀ r ∈ ws, r.1.2 ≤ s.count := fun r hr => g.le _ (rows_mem.mp (List.mem_filter.mp (p0.mem_iff.mp hr)).1)
    refine pairwise_mid (by rw [List.take_append_drop]; exact o) (fun r hr => ?_) fun r hr => ?_
    · have h1 := a r hr
      have h2 := cs r (List.mem_of_mem_take hr)
      unfold rlt
      show r.1.1 < t ∨ (r.1.1 = t ∧ r.1.2 < s.count + 1)
      omega
    · exact .inl (b r hr)
theorem known_none {s : QS} (g : Good s) {k : Spot} : knownL (wr s) k = match getS s.ents k with | none => [] | some x => [(x.1, k)] := by
  have key : (s.waiting.filter fun r => decide (r.2 = k)).Perm ((rowsOf s.ents).filter fun r => decide (r.2 = k)) := (waiting_perm s).filter _
  have e1 : knownL (wr s) k = (s.waiting.filter fun r => decide (r.2 = k)).map fun r => (r.1.1, r.2) := by unfold knownL wr; rw [map_filter]
  rw [e1]
  have e2 : (rowsOf s.ents).filter (fun r => decide (r.2 = k)) = match getS s.ents k with | none => [] | some x => [(x, k)] := by
    have nd := g.once
    generalize s.ents = es at nd
    induction es with
    | nil => rfl
    | cons e r more =>
      rw [List.map_cons, List.nodup_cons] at nd
      show ((e.2, e.1) :: rowsOf r).filter _ = _
      by_cases q : e.1 = k
      · rw [getS_pos q, List.filter_cons_of_pos (by simpa using q), more nd.2, getS_none.mpr (by rw [← q]; exact nd.1)]
        rw [q]
      · rw [getS_neg q, List.filter_cons_of_neg (by simpa using q)]
        exact more nd.2
  rw [e2] at key
  cases h : getS s.ents k with
  | none => rw [h] at key; rw [List.Perm.eq_nil key]; rfl
  | some x => rw [h] at key; rw [List.perm_singleton.mp key]; rfl
theorem wr_put {s : QS} (g : Good s) (k : Spot) (t : Int) : wr (s.put k t) = enterL (wr s) k t ∧ Good (s.put k t) := by
  unfold QS.put enterL
  rw [known_none g]
  cases h : getS s.ents k with
  | none => exact ⟨wr_bump g k t, g.bump k t⟩
  | some x =>
    show wr (if t < x.1 then s.bump k t else s) = (if x.1 ≤ t then wr s else _) ∧ Good (if t < x.1 then s.bump k t else s)
    by_cases q : t < x.1
    · rw [if_pos q, if_neg (by omega)]; exact ⟨wr_bump g k t, g.bump k t⟩
    · rw [if_neg q, if_pos (by omega)]; exact ⟨rfl, g⟩
/-- what comes out first -/
def firstL (rs : WR) (c : Int) : Option Spot := match rs with
  | r :: _ => if r.1 ≤ c then some r.2 else none
  | [] => none
theorem head_least {w : Row3} {ws : List Row3} (o : (w :: ws).Pairwise rlt) : ∀ r ∈ w :: ws, r = w ∨ rlt w r := fun r hr => (List.mem_cons.mp hr).imp id fun h => (List.pairwise_cons.mp o).1 r h
theorem first_wr {s : QS} (g : Good s) (c : Int) : s.first c = firstL (wr s) c := by
  have o := waiting_rlt g.cnt
  have p := waiting_perm s
  unfold QS.first firstL wr
  have mem_ : ∀ r, r ∈ s.due c ↔ r ∈ s.waiting ∧ r.1.1 ≤ c := fun r => by
    rw [p.mem_iff, rows_mem]; exact dueL_mem
  generalize s.waiting = W at o mem_
  cases hd : s.due c with
  | nil =>
    rw [hd] at mem_
    cases W with
    | nil => rfl
    | cons w ws =>
      have : ¬ w.1.1 ≤ c := fun h => nomatch (mem_ w).mpr ⟨List.mem_cons_self, h⟩
      exact (if_neg this).symm
  | cons x xs =>
    rw [hd] at mem_
    obtain ⟨m, l⟩ := minOf_least xs x
    have hm := (mem_ _).mp m
    cases W with
    | nil => cases hm.1
    | cons w ws =>
      have wc : w.1.1 ≤ c := by
        rcases head_least o _ hm.1 with e | e
        · rw [← e]; exact hm.2
        · have := hm.2; unfold rlt at e; omega
      have lw := l w ((mem_ w).mpr ⟨List.mem_cons_self, wc⟩)
      have e : minOf x xs = w := by
        rcases head_least o _ hm.1 with e | e
        · exact e
        · exfalso
          have n : (minOf x xs).1.2 ≠ w.1.2 ∨ (minOf x xs).1.2 = w.1.2 := by omega
          rcases n with n | n
          · have := rlt_of n lw
            unfold rlt at this e; omega
          · have n1 : ¬ w.1 = (minOf x xs).1 := fun z => by unfold rlt at e; rw [z] at e; omega
            have lw : (!(if w.1 = (minOf x xs).1 then DatumOrd.lt w.2 (minOf x xs).2 else DatumOrd.lt w.1 (minOf x xs).1)) = true := lw
            rw [if_neg n1, lt_pair] at lw
            unfold rlt at e
            by_cases q : w.1.1 = (minOf x xs).1.1
            · omega
            · rw [if_neg q, Bool.not_eq_true', decide_eq_false_iff_not] at lw; omega
      show some (minOf x xs).2 = (if w.1.1 ≤ c then some w.2 else none)
      rw [if_pos wc, e]
theorem Good.out {s : QS} (g : Good s) (k : Spot) : Good (s.out k) :=
  ⟨dropS_nodup g.once, g.cnt.sublist (List.Sublist.map _ (List.filter_sublist ..)), fun e he => g.le e (dropS_mem.mp he).1⟩
theorem wr_out {s : QS} (g : Good s) {k : Spot} {m : Int} {r : WR} (h : wr s = (m, k) :: r) : wr (s.out k) = r := by
  have o := waiting_rlt g.cnt
  have p := waiting_perm s
  unfold wr at h
  have nd : (s.waiting.map (·.2)).Nodup := by
    refine (p.map (·.2)).nodup_iff.mpr ?_
    unfold rowsOf; rw [List.map_map]; exact g.once
  cases W : s.waiting with
  | nil => rw [W] at h; cases h
  | cons w ws =>
    rw [W] at h o p nd
    rw [List.map_cons] at h
    injection h with h1 h2
    injection h1 with h0 h1
    rw [List.map_cons, List.nodup_cons] at nd
    have e : ws = (s.out k).waiting := by
      refine waiting_is (g.out k).cnt ?_ (List.pairwise_cons.mp o).2
      have q := p.filter fun r => decide (¬ r.2 = k)
      rw [List.filter_cons_of_neg (by simpa using h1)] at q
      have e1 : ws.filter (fun r => decide (¬ r.2 = k)) = ws := List.filter_eq_self.mpr fun r hr => decide_eq_true fun z => nd.1 (by rw [h1, ← z]; exact List.mem_map_of_mem hr)
      rw [e1] at q
      refine q.trans (List.Perm.of_eq ?_)
      show _ = rowsOf (dropS s.ents k)
      unfold rowsOf dropS
      rw [List.filter_map]
      rfl
    unfold wr
    rw [← e]; exact h2
theorem next_wr {s : QS} (g : Good s) : s.next = (wr s).head?.map (·.1) := by
  have o := waiting_rlt g.cnt
  have p := waiting_perm s
  have mem_ : ∀ t, t ∈ s.ents.map (·.2.1) ↔ ∃ r ∈ s.waiting, r.1.1 = t := fun t => by
    rw [List.mem_map]
    constructor
    · rintro ⟨e, he, rfl⟩; exact ⟨(e.2, e.1), p.mem_iff.mpr (rows_mem.mpr he), rfl⟩
    · rintro ⟨r, hr, rfl⟩; exact ⟨_, rows_mem.mp (p.mem_iff.mp hr), rfl⟩
  unfold QS.next wr
  generalize s.waiting = W at o mem_
  cases hd : s.ents.map (·.2.1) with
  | nil =>
    rw [hd] at mem_
    cases W with
    | nil => rfl
    | cons w ws => exact nomatch (mem_ w.1.1).mpr ⟨w, List.mem_cons_self, rfl⟩
  | cons x xs =>
    rw [hd] at mem_
    obtain ⟨m, l⟩ := minOf_least xs x
    obtain ⟨r, hr, er⟩ := (mem_ _).mp m
    cases W with
    | nil => cases hr
    | cons w ws =>
      have a := l w.1.1 ((mem_ _).mpr ⟨w, List.mem_cons_self, rfl⟩)
      have a : (!decide (w.1.1 < minOf x xs)) = true := a
      rw [Bool.not_eq_true', decide_eq_false_iff_not] at a
      show some (minOf x xs) = some w.1.1
      rcases head_least o r hr with e | e
      · rw [← er, e]
      · unfold rlt at e; congr 1; omega
/-- the calls, on the law's side -/
theorem add_good {s : QS} (g : Good s) (k : Spot) (t : Int) : Good (s.add k t) ∧ wr (s.add k t) = (match getS s.taken k with | some _ => wr s | none => enterL (wr s) k t) ∧
    (s.add k t).taken = (match getS s.taken k with | some (some u) => putS s.taken k (some (minPy u t)) | some none => putS s.taken k (some t) | none => s.taken) ∧ (s.add k t).delays = s.delays ∧ (s.add k t).longest = s.longest := by
  unfold QS.add
  rcases getS s.taken k with _ | _ | u
  · have ⟨a, b⟩ := wr_put g k t
    refine ⟨b, a, ?_⟩
    unfold QS.put
    rcases getS s.ents k with _ | x
    · exact ⟨rfl, rfl, rfl⟩
    · show (if t < x.1 then s.bump k t else s).taken = _ ∧ (if t < x.1 then s.bump k t else s).delays = _ ∧ (if t < x.1 then s.bump k t else s).longest = _
      split <;> exact ⟨rfl, rfl, rfl⟩
  · exact ⟨⟨g.once, g.cnt, g.le⟩, rfl, rfl, rfl, rfl⟩
  · exact ⟨⟨g.once, g.cnt, g.le⟩, rfl, rfl, rfl, rfl⟩
theorem put_rest (s : QS) (k : Spot) (t : Int) : (s.put k t).taken = s.taken ∧ (s.put k t).delays = s.delays ∧ (s.put k t).longest = s.longest := by
  unfold QS.put
  rcases getS s.ents k with _ | x
  · exact ⟨rfl, rfl, rfl⟩
  · show (if t < x.1 then s.bump k t else s).taken = _ ∧ (if t < x.1 then s.bump k t else s).delays = _ ∧ (if t < x.1 then s.bump k t else s).longest = _
    split <;> exact ⟨rfl, rfl, rfl⟩
def endL (rs : WR) (k : Spot) : Option Int → WR
  | some t => enterL rs k t
  | none => rs
theorem done_good {s : QS} (g : Good s) {k : Spot} {o : Option Int} (h : getS s.taken k = some o) : Good (s.done k) ∧ wr (s.done k) = endL (wr s) k o ∧
    (s.done k).taken = dropS s.taken k ∧ (s.done k).delays = s.delays ∧ (s.done k).longest = s.longest := by
  unfold QS.done
  rw [h]
  have g2 : Good { s with taken := dropS s.taken k } := ⟨g.once, g.cnt, g.le⟩
  cases o with
  | none => exact ⟨g2, rfl, rfl, rfl, rfl⟩
  | some t =>
    have ⟨a, b⟩ := wr_put g2 k t
    have ⟨x, y, z⟩ := put_rest { s with taken := dropS s.taken k } k t
    exact ⟨b, a, x, y, z⟩
end

/-! ### parts of lists -/
theorem paired_take {α β : Type} {F : α → β → Prop} : ∀ (n : Nat) {xs : List α} {ys : List β}, Paired F xs ys → Paired F (xs.take n) (ys.take n)
  | 0, _, _, _ => by rw [List.take_zero, List.take_zero]; exact .nil
  | _ + 1, _, _, .nil => .nil
  | n + 1, _, _, .cons r t => .cons r (paired_take n t)
theorem paired_drop {α β : Type} {F : α → β → Prop} : ∀ (n : Nat) {xs : List α} {ys : List β}, Paired F xs ys → Paired F (xs.drop n) (ys.drop n)
  | 0, _, _, h => h
  | _ + 1, _, _, .nil => .nil
  | n + 1, _, _, .cons _ t => paired_drop n t
theorem cut_take (xs : List V) (n : Nat) : cutV xs none (some (n : Int)) = xs.take n := by
  unfold cutV
  rw [HT.sIx_nat, HT.sIx_none, List.drop_zero, Nat.sub_zero]
  by_cases h : n ≤ xs.length
  · rw [Nat.min_eq_left h]
  · rw [Nat.min_eq_right (by omega), List.take_length, List.take_of_length_le (by omega)]
theorem cut_drop (xs : List V) (n : Nat) : cutV xs (some (n : Int)) none = xs.drop n := by
  unfold cutV
  rw [HT.sIx_nat, HT.sIx_none]
  by_cases h : n ≤ xs.length
  · rw [Nat.min_eq_left h]
    exact List.take_of_length_le (by rw [List.length_drop]; omega)
  · rw [Nat.min_eq_right (by omega), List.drop_length, List.take_nil, List.drop_eq_nil_of_le (by omega)]
theorem cut_takeI (xs : List V) {i : Int} (h : 0 ≤ i) : cutV xs none (some i) = xs.take i.toNat := by
  obtain ⟨n, rfl⟩ := Int.eq_ofNat_of_zero_le h
  exact cut_take xs n
theorem cut_dropI (xs : List V) {i : Int} (h : 0 ≤ i) : cutV xs (some i) none = xs.drop i.toNat := by
  obtain ⟨n, rfl⟩ := Int.eq_ofNat_of_zero_le h
  exact cut_drop xs n
theorem cut_mem {xs : List V} {lo hi : Option Int} {y : V} (h : y ∈ cutV xs lo hi) : y ∈ xs := List.mem_of_mem_drop (List.mem_of_mem_take h)
theorem cut_int {ns : List Int} {lo hi : Option Int} {x : V} (h : x ∈ cutV (ns.map V.int) lo hi) : ∃ i, x = .int i := by
  obtain ⟨i, _, rfl⟩ := List.mem_map.mp (cut_mem h)
  exact ⟨i, rfl⟩
theorem paired_app {α β : Type} {F : α → β → Prop} : ∀ {xs xs' : List α} {ys ys' : List β}, Paired F xs ys → Paired F xs' ys' → Paired F (xs ++ xs') (ys ++ ys')
  | _, _, _, _, .nil, h => h
  | _, _, _, _, .cons r t, h => .cons r (paired_app t h)

/-! ### [x for x in xs if test]: the items chosen -/
abbrev LcTurns (J : It) (g : TG) (tt : TT) (te : TE) (vs : List Nat) (σ : L2.St) (start : Hp) (D : Addr) (Fin : Hp → Prop) : Prop := ∃ W : Nat → Nat → Hp → Prop, (∃ m, W 0 m start) ∧ ∀ i m H, W i m H →
  (J.stop i H ∧ Fin H) ∨ (J.go i H ∧ ∃ Nx : Hp → Prop, (∀ H', Nx H' → ∃ m', m' < m ∧ W (i + 1) m' H') ∧ ∀ x H', J.yld i H x H' → g x (wipe σ vs) H' fun σ2 H2 => wipe σ2 vs = wipe σ vs ∧ tt σ2 H2 fun b H3 =>
    if b = true then te σ2 H3 fun y H4 => ∃ acc, H4 D = some (.lst acc) ∧ acc.length < sizeLine ∧ Nx (upd H4 D (.lst (acc ++ [y]))) else Nx H3)
/-- RR: what an item's object stands for; it reads tuples alone -/
def TupRel {β : Type} (RR : Hp → Addr → β → Prop) : Prop := ∀ {H H' : Hp} {p : Addr} {r : β}, (∀ b ys, H b = some (.tup ys) → H' b = some (.tup ys)) → RR H p r → RR H' p r
theorem lc_pick {β : Type} {RR : Hp → Addr → β → Prop} (keepR : TupRel RR) (P : β → Bool) {K : PySem.W.Frag} {g : TG} {tt : TT} {te : TE} {vs : List Nat} {σ : L2.St} {H1 : Hp} {D L : Addr} {Fin : Hp → Prop} {ps : List Addr} {ws : List β}
    (gL : H1 L = some (.lst (ps.map V.ref))) (hp : Paired (RR H1) ps ws) (hD : H1 D = none) (few : ws.length < 100000)
    (turn : ∀ (p : Addr) (r : β) (H2 : Hp), r ∈ ws → Same H1 H2 → RR H2 p r → ∀ (C : V → Hp → Prop) (E : Hp → Prop), (∀ H3, Same H2 H3 → P r = true → C (.ref p) H3) → (∀ H3, Same H2 H3 → P r = false → E H3) →
      g (.ref p) (wipe σ vs) H2 fun σ2 H2' => wipe σ2 vs = wipe σ vs ∧ tt σ2 H2' fun b H3 => if b = true then te σ2 H3 C else E H3)
    (fin : ∀ (H' : Hp) (qs : List Addr), Same H1 H' → H' D = some (.lst (qs.map V.ref)) → Paired (RR H') qs (ws.filter P) → Fin H') : LcTurns (Itl K L) g tt te vs σ (upd H1 D (.lst [])) D Fin := by
  have lp : ps.length = ws.length := Paired.length hp
  refine lc_it (walk_list (xs := ps.map V.ref)) (fun i H' => Same H1 H' ∧ ∃ qs : List Addr, H' D = some (.lst (qs.map V.ref)) ∧ Paired (RR H') qs ((ws.take i).filter P)) ⟨Same.new hD, [], upd_same, .nil⟩ (fun i H' _ p => SqL.of (p.1 _ _ gL)) ?_ ?_
  · rintro i x _ H2 hi ⟨S1, qs, gD, hq⟩ ⟨rfl, ex⟩
    rw [List.getElem?_map] at ex
    obtain ⟨p, ep, rfl⟩ := Option.map_eq_some_iff.mp ex
    obtain ⟨r, er, hr⟩ := paired_get hp ep
    rw [get_take er, List.filter_append]
    have lq : qs.length ≤ ws.length := by
      have e : qs.length = _ := Paired.length hq
      have := List.length_filter_le P (ws.take i)
      rw [List.length_take] at this
      omega
    refine turn p r H2 (mem_at er) S1 (keepR (fun b ys hb => S1 _ _ hb) hr) _ _ (fun H3 S2 y => ?_) (fun H3 S2 y => ?_)
    · have gD3 := S2 _ _ gD
      have back : ∀ b ys, H3 b = some (.tup ys) → upd H3 D (.lst (qs.map V.ref ++ [.ref p])) b = some (.tup ys) := fun b ys hb => (upd_ne (ne_of hb gD3 fun z => nomatch z)).trans hb
      refine ⟨_, gD3, small5' (by rw [List.length_map]; omega), fun b o hb => ?_, qs ++ [p], by rw [upd_same, List.map_append]; rfl, ?_⟩
      · rw [upd_ne (ne_of_none hb hD)]; exact S2 _ _ (S1 _ _ hb)
      · rw [List.filter_cons_of_pos y, List.filter_nil]
        exact Paired.snoc (Paired.mono (fun _ _ h => keepR (fun b ys hb => back _ _ (S2 _ _ hb)) h) hq) (keepR (fun b ys hb => back _ _ (S2 _ _ (S1 _ _ hb))) hr)
    · rw [List.filter_cons_of_neg (by rw [y]; exact Bool.false_ne_true), List.filter_nil, List.append_nil]
      exact ⟨S1.trans S2, qs, S2 _ _ gD, Paired.mono (fun _ _ h => keepR (fun b ys hb => S2 _ _ hb) h) hq⟩
  · rintro H2 ⟨S1, qs, gD, hq⟩
    rw [List.length_map, lp, List.take_length] at hq
    exact fin H2 qs S1 gD hq
/-- [f(x) for x in xs]: plain values made of the items -/
theorem lc_make {β : Type} {RR : Hp → Addr → β → Prop} (keepR : TupRel RR) (F : β → V) {K : PySem.W.Frag} {g : TG} {te : TE} {vs : List Nat} {σ : L2.St} {H1 : Hp} {D L : Addr} {Fin : Hp → Prop} {ps : List Addr} {ws : List β}
    (gL : H1 L = some (.lst (ps.map V.ref))) (hp : Paired (RR H1) ps ws) (hD : H1 D = none) (few : ws.length < 100000)
    (turn : ∀ (p : Addr) (r : β) (H2 : Hp), r ∈ ws → Same H1 H2 → RR H2 p r → ∀ (C : V → Hp → Prop), (∀ H3, Same H2 H3 → C (F r) H3) →
      g (.ref p) (wipe σ vs) H2 fun σ2 H2' => wipe σ2 vs = wipe σ vs ∧ te σ2 H2' C)
    (fin : ∀ (H' : Hp), Same H1 H' → H' D = some (.lst (ws.map F)) → Fin H') (gm : ∀ {x : V} {σ : L2.St} {H : Hp} {A B : L2.St → Hp → Prop}, g x σ H A → (∀ σ H, A σ H → B σ H) → g x σ H B) : LcTurns (Itl K L) g tYes te vs σ (upd H1 D (.lst [])) D Fin := by
  have lp : ps.length = ws.length := Paired.length hp
  refine lc_it (walk_list (xs := ps.map V.ref)) (fun i H' => Same H1 H' ∧ H' D = some (.lst ((ws.take i).map F))) ⟨Same.new hD, upd_same⟩ (fun i H' _ p => SqL.of (p.1 _ _ gL)) ?_ ?_
  · rintro i x _ H2 hi ⟨S1, gD⟩ ⟨rfl, ex⟩
    rw [List.getElem?_map] at ex
    obtain ⟨p, ep, rfl⟩ := Option.map_eq_some_iff.mp ex
    obtain ⟨r, er, hr⟩ := paired_get hp ep
    rw [get_take er, List.map_append]
    refine gm (turn p r H2 (mem_at er) S1 (keepR (fun b ys hb => S1 _ _ hb) hr) (fun y H4 => ∃ acc, H4 D = some (.lst acc) ∧ acc.length < sizeLine ∧ Same H1 (upd H4 D (.lst (acc ++ [y]))) ∧ upd H4 D (.lst (acc ++ [y])) D = some (.lst ((ws.take i).map F ++ [r].map F))) fun H3 S2 => ?_) fun σ2 H2 ⟨e, q⟩ => ⟨e, yes_ (iteT q)⟩
    refine ⟨_, S2 _ _ gD, small5' (by rw [List.length_map, List.length_take]; omega), fun b o hb => ?_, by rw [upd_same]; rfl⟩
    rw [upd_ne (ne_of_none hb hD)]; exact S2 _ _ (S1 _ _ hb)
  · rintro H2 ⟨S1, gD⟩
    rw [List.length_map, lp, List.take_length] at gD
    exact fin H2 S1 gD
theorem gName_mono {i : Nat} {x : V} {σ : L2.St} {H : Hp} {A B : L2.St → Hp → Prop} (h : gName i x σ H A) (k : ∀ σ H, A σ H → B σ H) : gName i x σ H B := k _ _ h

/-! ### sets anew: what set(v) makes, its update (as in setx, setl, for laws without sets of texts) -/
abbrev freshO (w : World) : Obj := { cls := .type "set", dict := none, data := .set #[] 0 (.fresh 0 0 (!w.params.followText "set-order")) }
theorem str_of_is {P : Program} {w : World} {k : Str} {v : Value} (h : (PySem.strKind P w).is k v = true) : ∃ t, v = .str k t := by
  revert h
  show Value.isStrOf k v = true → _
  cases v with
  | str z t => exact fun h => ⟨t, by rw [eq_of_beq (show (z == k) = true from h)]⟩
  | _ => exact fun h => absurd h (by simp [Value.isStrOf])
section
variable {P : Program} {w : World} {A : Around} {E : Value → Shared → Prop} {s : Shared}
theorem update_once {S I : Addr} {R : Result → Shared → Prop} (h : wpAny (model P w) A.in1 (Builtin.«set.update.loop» ⟨[.ref S, .ref I], []⟩) (fun fin s' => match fin with | .done fl => R (.ok fl) s' | .again c => c.quiet = true ∧ codeAny (model P w) A c R s') (fun x s' => R (.error x) s') s) : codeAny (model P w) A (.builtin "set.update.loop" ⟨[.ref S, .ref I], []⟩) R s :=
  codeAny_builtin PyProof.Rows.F.entry_set_update_loop (by rw [Around.under_plainId PyProof.Rows.F.plain_set_update_loop _]; exact h)
set_option maxHeartbeats 3200000 in
theorem made_set {v : Value} {Q : Value → Shared → Prop} (init : ∀ A' : Around, A'.handled = A.handled → A'.units ≤ A.units + 8 → codeAny (model P w) A' (.call (.builtin "set.__init__") ⟨[.ref s.heap.objs.size, v], []⟩) (wants (fun r s' => r = .none ∧ Q (.ref s.heap.objs.size) s') E) { s with heap := s.heap.push (freshO w) }) :
    wpAny (model P w) A (call (.type "set") [v]) Q E s := by
  have ⟨_, _, mro_⟩ := F.called_set.mro
  have a1 := F.called_set.made
  have a2 := F.called_set.sub
  have a3 := F.called_set.notType
  have a4 := F.called_set.canCreate
  have a5 := F.typeCall_set_1 v
  refine wpAny_call (codeAny_of_tree (show wpAny _ _ (callAny (.type "set") _) _ _ _ from wpAny_pure ⟨Code.quiet_builtin _ (by decide +kernel), codeAny_builtin F.entry_type_call ?_⟩))
  rw [Around.under_plain (weight_type_call_type "set" [v] []) rfl]
  repeat any_goals first | assumption | wp_step
  refine codeAny_mono (code_set_led1 v (E := E) (Q₁ := fun o s1 => o = .ref s.heap.objs.size ∧ s1 = { s with heap := s.heap.push (freshO w) }) ⟨rfl, rfl⟩) fun r s1 hr => ?_
  match r, hr with
  | .error x, hr => exact hr
  | .ok (.ret o), ⟨eo, es⟩ =>
    subst eo; subst es
    have b1 : Shared.TypeIs { s with heap := s.heap.push (freshO w) } (.ref s.heap.objs.size) "set" := ⟨_, Heap.get?_push_size _ rfl, rfl⟩
    have b2 := F.called_set.init.lookup
    have b3 := F.called_set.init.bind (.ref s.heap.objs.size)
    repeat any_goals first | assumption | wp_step
    refine codeAny_mono (init _ (by simp) (by first | (show A.units + 0 ≤ _; omega) | (show A.units + 1 ≤ _; omega) | (show A.units + 2 ≤ _; omega) | (show A.units + 3 ≤ _; omega) | (show A.units + 4 ≤ _; omega))) fun r2 s2 hr2 => ?_
    match r2, hr2 with
    | .error x, hr2 => exact hr2
    | .ok (.ret o), ⟨eo, q⟩ =>
      subst eo
      repeat any_goals first | assumption | wp_step
end

/-! ### sets of tuples of texts -/
section
open PySem.Spec
/-- at a lies a tuple of the texts k -/
abbrev TupS (P : Program) (w : World) (h : Heap) (k : List Str) (a : Addr) : Prop := IsTupleKey (PySem.strKind P w) h k a
abbrev tupH (P : Program) (w : World) (k : List Str) : Int := tupleKeyHash (PySem.strKind P w) k
abbrev Row2 := Addr × List Str
abbrev hRow (P : Program) (w : World) (r : Row2) : Int := tupH P w r.2
abbrev vRow (P : Program) (w : World) (r : Row2) : Int × Value := (tupH P w r.2, Value.ref r.1)
variable {P : Program} {w : World} {A : Around} {E : Value → Shared → Prop} {s : Shared}
/-- a loop that asks each item and finds nothing -/
theorem ask_all {β : Type} {xs : List Value} {b : β} {f : Value → β → Sem (ForInStep β)} {Q : β → Shared → Prop} (one : ∀ v ∈ xs, f v b = pure (.yield b)) (q : Q b s) : wpAny (model P w) A (forIn xs b f) Q E s := by
  induction xs with
  | nil => rw [List.forIn_nil]; exact wpAny_pure q
  | cons x xs more =>
    rw [List.forIn_cons, one x List.mem_cons_self]
    exact wpAny_bind (wpAny_pure (more fun v hv => one v (List.mem_cons_of_mem _ hv)))
theorem carried_calm (n : Nat) {v : Value} (h : carriedByValue v = true) : ofAClassStatement n v = pure false := by
  cases v with
  | ref => cases h
  | _ => cases n <;> rfl
theorem tup_calm {k : List Str} {b : Addr} {Q : Bool → Shared → Prop} (at_ : TupS P w s.heap k b) (q : Q false s) : wpAny (model P w) A (ofAClassStatement 8 (.ref b)) Q E s := by
  have ty := at_.typeIs
  obtain ⟨o, its, n, ho, _, hd, are⟩ := at_
  unfold ofAClassStatement
  refine wpAny_bind (wpAny_typeOf ty ?_)
  simp only [beq_self_eq_true, if_true]
  refine wpAny_bind (wpAny_pure ?_)
  simp only [Bool.not_true, Bool.false_eq_true, if_false]
  refine wpAny_bind (wpAny_seqItems ho hd ?_)
  dsimp only
  rw [← Array.forIn_toList]
  refine wpAny_bind (ask_all (fun v hv => ?_) (wpAny_pure q))
  rw [carried_calm 7 (are.byValue v hv)]
  rfl
theorem tup_byValue {k : List Str} {b : Addr} {Q : Bool → Shared → Prop} (at_ : TupS P w s.heap k b) (q : ∀ y, Q y s) : wpAny (model P w) A (hashByValue 8 (.ref b)) Q E s := by
  have ty := at_.typeIs
  obtain ⟨o, its, n, ho, _, hd, are⟩ := at_
  unfold hashByValue
  refine wpAny_bind (wpAny_specialOf ty PySem.F.slot_tuple_hash.lookup ?_)
  refine wpAny_bind (wpAny_seqItems ho hd ?_)
  dsimp only [Option.getD_some]
  rw [← Array.forIn_toList]
  generalize its.toList = xs at are
  cases are with
  | nil => exact wpAny_bind (by rw [List.forIn_nil]; exact wpAny_pure (wpAny_pure (q _)))
  | @cons x v ks vs hv _ =>
    obtain ⟨t, rfl⟩ := str_of_is hv
    refine wpAny_bind ?_
    rw [List.forIn_cons]
    refine wpAny_bind (wpAny_bind (wpAny_pure ?_))
    exact wpAny_pure (wpAny_pure (wpAny_pure (q _)))
theorem tup_unseen {k : List Str} {b : Addr} {ys : List Value} {Q : Bool → Shared → Prop} (at_ : TupS P w s.heap k b) (all : ∀ y ∈ ys, ∃ k' c, y = Value.ref c ∧ TupS P w s.heap k' c) (q : Q false s) :
    wpAny (model P w) A (searchCouldBeSeen (.ref b) ys) Q E s := by
  unfold searchCouldBeSeen
  refine wpAny_bind ?_
  induction ys with
  | nil => rw [List.forIn_nil]; exact wpAny_pure (wpAny_pure q)
  | cons y ys more =>
    obtain ⟨k', c, rfl, hc⟩ := all y List.mem_cons_self
    rw [List.forIn_cons]
    refine wpAny_bind ?_
    have rest := more fun y hy => all y (List.mem_cons_of_mem _ hy)
    dsimp only
    by_cases same : (b == c || (carriedByValue (.ref b) && carriedByValue (.ref c))) = true
    · rw [if_pos same]; exact wpAny_pure rest
    · rw [if_neg same]
      refine wpAny_bind (wpAny_eqIsQuiet_tuple at_ ?_)
      simp only [Bool.not_true, Bool.false_eq_true, if_false]
      refine wpAny_bind (wpAny_eqIsQuiet_tuple hc ?_)
      simp only [Bool.not_true, Bool.false_eq_true, if_false]
      refine wpAny_bind (tup_calm at_ ?_)
      simp only [Bool.false_eq_true, if_false]
      refine wpAny_bind (tup_calm hc ?_)
      simp only [Bool.false_eq_true, if_false]
      exact wpAny_pure rest
end

/-! ### the table of a set of tuples: a search, a text put in -/
section
open PySem.Spec
/-- the c-th place of the way of the hash h -/
abbrev stepN (m : Nat) (h : Int) (c : Nat) : SetTable.Probe := nth m (runAt m (SetTable.bits h % (m + 1)) (SetTable.bits h)) c
theorem stepN_calm (m : Nat) (h : Int) (c : Nat) : (stepN m h c).dummy = none := by
  suffices ∀ (c : Nat) (p : SetTable.Probe), p.dummy = none → (nth m p c).dummy = none from this c _ rfl
  intro c
  induction c with
  | zero => exact fun _ e => e
  | succ c more => exact fun p e => more (adv m p) (by unfold adv; split <;> exact e)
/-- what a probe tells from the c-th place on, K the first empty place -/
theorem probe_tells {t : SetTable} {hs : List Int} (T : TabOk t hs) {h : Int} {K c : Nat} (empty_ : way t.mask h K ∉ t.place.toList) (before_ : ∀ d, d < K → way t.mask h d ∈ t.place.toList) (le : c ≤ K) (fuel : K - c < 10 * SetTable.turns t.mask) (hashAt : Nat → Int) :
    (∃ q i, c ≤ q ∧ q < K ∧ t.place.toList[i]? = some (way t.mask h q) ∧ hashAt i = h ∧ (∀ d j, c ≤ d → d < q → t.place.toList[j]? = some (way t.mask h d) → hashAt j ≠ h) ∧ t.probe hashAt h (stepN t.mask h c) = some (.candidate (way t.mask h q) i (stepN t.mask h (q + 1)))) ∨
    ((∀ d j, c ≤ d → d < K → t.place.toList[j]? = some (way t.mask h d) → hashAt j ≠ h) ∧ t.probe hashAt h (stepN t.mask h c) = some (.empty (way t.mask h K) none)) := by
  have shift : ∀ d, nth t.mask (stepN t.mask h c) d = stepN t.mask h (c + d) := fun d => (nth_add ..).symm
  have at_K : nth t.mask (stepN t.mask h c) (K - c) = stepN t.mask h K := by rw [shift]; congr 1; omega
  have told := go_spec t T.ris T.dm hashAt h (10 * SetTable.turns t.mask) (K - c) (stepN t.mask h c) (stepN_calm ..) fuel (fun d lt => by rw [shift]; exact before_ _ (by omega)) (by rw [at_K]; exact empty_)
  rw [at_K] at told
  refine told.imp (fun ⟨q, i, lt, at_, same, none_, met⟩ => ?_) fun ⟨none_, met⟩ => ?_
  · rw [shift, shift] at met
    rw [shift] at at_
    refine ⟨c + q, i, by omega, by omega, at_, same, fun d j ge less e => none_ (d - c) j (by omega) ?_, met⟩
    rw [shift, show c + (d - c) = d by omega]; exact e
  · refine ⟨fun d j ge less e => none_ (d - c) j (by omega) ?_, met⟩
    rw [shift, show c + (d - c) = d by omega]; exact e
theorem place_one {t : SetTable} (r : Ris t.place.toList) {i j x : Nat} (a : t.place.toList[i]? = some x) (b : t.place.toList[j]? = some x) : i = j := by
  have := (slot_live r a).symm.trans (slot_live r b)
  injection this
/-- at a lies a set of the rows L -/
structure SpSt (P : Program) (w : World) (h : Heap) (a : Addr) (L : List Row2) (es : Array (Int × Value)) (ep : Nat) (t : SetTable) : Prop where
  ob : ∃ o, h.get? a = some o ∧ o.ExactSet ∧ o.data = .set es ep t
  rows : es.toList = L.map (vRow P w)
  tab : TabOk t (L.map (hRow P w))
  once : (L.map (·.2)).Nodup
  led : w.params.followText "set-order" = true ∨ t.led = true
  room : L.length * 5 < t.mask * 3
  few : L.length < 64
abbrev Tups (P : Program) (w : World) (h : Heap) (L : List Row2) : Prop := ∀ r ∈ L, TupS P w h r.2 r.1
variable {P : Program} {w : World} {A : Around} {E : Value → Shared → Prop} {s : Shared} {a : Addr} {L : List Row2} {es : Array (Int × Value)} {ep : Nat} {t : SetTable}
theorem SpSt.size (R : SpSt P w s.heap a L es ep t) : es.size = L.length := by have := congrArg List.length R.rows; simpa using this
theorem SpSt.placed (R : SpSt P w s.heap a L es ep t) : t.place.toList.length = L.length := by have := R.tab.sz; simpa using this
theorem fits_of {t : SetTable} {n : Nat} (a : t.place.size = n) (b : t.dummies = #[]) (c : n ≤ t.mask) : t.fits n = true := by
  unfold SetTable.fits SetTable.fill
  rw [b]
  simp [a, c]
theorem SpSt.fits (R : SpSt P w s.heap a L es ep t) : t.fits es.size = true := fits_of (by rw [R.size]; exact R.placed) R.tab.dm (by have := R.size; have := R.room; omega)
theorem SpSt.row (R : SpSt P w s.heap a L es ep t) (i : Nat) : es[i]? = (L[i]?).map (vRow P w) := by rw [← Array.getElem?_toList, R.rows, List.getElem?_map]
theorem odd_stays {t : SetTable} (m : MaskOk t.mask) : t.gaveWay = false := by
  unfold SetTable.gaveWay
  rw [mask_odd m]; rfl
variable {x : Addr} {k : List Str}
/-- the search for k, from the c-th place of its way on -/
theorem search_way (R : SpSt P w s.heap a L es ep t) (tups : Tups P w s.heap L) (at_ : TupS P w s.heap k x) (hu : A.units < cLine) {K : Nat} (fuel : K < 10 * SetTable.turns t.mask) (empty_ : way t.mask (tupH P w k) K ∉ t.place.toList) (before_ : ∀ d, d < K → way t.mask (tupH P w k) d ∈ t.place.toList)
    {Q : SetFound → Shared → Prop} (yes : k ∈ L.map (·.2) → Q (.there none) s) (no : k ∉ L.map (·.2) → Q (.free (way t.mask (tupH P w k) K) false) s) :
    ∀ (f c : Nat) (stand : Option SetTable.Probe), c ≤ K → K - c < f → stand.getD (t.probeStart (tupH P w k)) = stepN t.mask (tupH P w k) c → (∀ (d j : Nat) (r : Row2), d < c → L[j]? = some r → t.place.toList[j]? = some (way t.mask (tupH P w k) d) → r.2 ≠ k) →
      wpAny (model P w) A (setSearchFrom a (.ref x) (tupH P w k) true f stand) Q E s
  | 0, _, _, _, less, _, _ => absurd less (Nat.not_lt_zero _)
  | f + 1, c, stand, le, less, here, passed => by
    obtain ⟨o, ho, _, hd⟩ := R.ob
    have hashes : ∀ {i : Nat} {r : Row2}, L[i]? = some r → ((es[i]?).map (·.1)).getD 0 = tupH P w r.2 := fun {i r} e => by rw [R.row, e]; rfl
    have rowAt : ∀ {i d : Nat}, t.place.toList[i]? = some (way t.mask (tupH P w k) d) → ∃ r, L[i]? = some r := fun {i d} e => by
      have lt := (List.getElem?_eq_some_iff.mp e).1
      rw [R.placed] at lt
      exact ⟨_, List.getElem?_eq_getElem lt⟩
    rw [setSearchFrom_succ]
    refine wpAny_bind (wpAny_setState_of ho hd R.fits ?_)
    dsimp only
    rw [odd_stays R.tab.mok, here]
    simp only [Bool.false_eq_true, if_false]
    try refine wpAny_bind (wpAny_pure ?_)
    rcases probe_tells R.tab empty_ before_ le (by omega) (fun i => ((es[i]?).map (·.1)).getD 0) with ⟨q, i, ge, lt, pl, same, skipped, met⟩ | ⟨skipped, met⟩
    · rw [met]
      dsimp only
      obtain ⟨r, er⟩ := rowAt pl
      have mem_ := List.mem_of_getElem? er
      have goes : wpAny (model P w) A (searchRest a (.ref x) (tupH P w k) true f es t (way t.mask (tupH P w k) q) i (stepN t.mask (tupH P w k) (q + 1))) Q E s := by
        have live := slot_live R.tab.ris pl
        unfold searchRest
        rw [R.row, er]
        dsimp only [Option.map_some]
        refine wpAny_bind (wpAny_holding (wpAny_eqBool_tuple hu (tups r mem_) at_ ?_))
        refine wpAny_bind (wpAny_setState_of ho hd R.fits ?_)
        dsimp only
        by_cases hit : r.2 = k
        · rw [decide_eq_true hit]
          exact wpAny_pure (yes (hit ▸ List.mem_map_of_mem mem_))
        · rw [decide_eq_false hit]
          simp only [Bool.and_false, Bool.false_eq_true, if_false]
          try refine wpAny_bind (wpAny_pure ?_)
          rw [sameMem]
          dsimp only
          simp only [if_true, live, R.row, er, Option.map_some]
          refine wpAny_bind (wpAny_isSame_ref_self (wpAny_bind (wpAny_pure ?_)))
          simp only [if_true, Bool.false_eq_true, if_false]
          refine search_way R tups at_ hu fuel empty_ before_ yes no f (q + 1) _ (by omega) (by omega) rfl fun d j r' less' ej pj => ?_
          rcases Nat.lt_trichotomy d q with z | z | z
          · rcases Nat.lt_or_ge d c with y | y
            · exact passed d j r' y ej pj
            · exact fun e => skipped d j y z pj (by show ((es[j]?).map (·.1)).getD 0 = _; rw [hashes ej, e])
          · subst z
            have := place_one R.tab.ris pl pj
            subst this
            rw [er] at ej
            exact Option.some.inj ej ▸ hit
          · omega
      cases led : t.led with
      | true => simp only [Bool.not_true, Bool.false_eq_true, if_false]; try refine wpAny_bind (wpAny_pure ?_)
                exact goes
      | false =>
        simp only [Bool.not_false, if_true]
        refine wpAny_bind (tup_unseen at_ (fun y hy => ?_) ?_)
        · obtain ⟨e, he, rfl⟩ := List.mem_map.mp hy
          have he : e ∈ es.toList := by
            have : e ∈ es := by simp at he; exact he.1
            simpa using this
          rw [R.rows] at he
          obtain ⟨r', hr, rfl⟩ := List.mem_map.mp he
          exact ⟨r'.2, r'.1, rfl, tups r' hr⟩
        · simp only [Bool.false_eq_true, if_false]
          try refine wpAny_bind (wpAny_pure ?_)
          exact goes
    · rw [met]
      refine wpAny_pure (no fun there => ?_)
      obtain ⟨r, hr, ek⟩ := List.mem_map.mp there
      obtain ⟨i, hi⟩ := List.getElem?_of_mem hr
      have lt : i < t.place.toList.length := by rw [R.placed]; exact (List.getElem?_eq_some_iff.mp hi).1
      have ep_ := List.getElem?_eq_getElem lt
      obtain ⟨d, dk, ed⟩ := R.tab.before empty_ (i := i) (by rw [List.getElem?_map, hi, ← ek]; rfl) ep_
      rw [← ed] at ep_
      rcases Nat.lt_or_ge d c with y | y
      · exact passed d i r y hi ep_ ek
      · exact skipped d i y dk ep_ (by show ((es[i]?).map (·.1)).getD 0 = _; rw [hashes hi, ek])
/-- the search that adding asks for -/
theorem search_key (R : SpSt P w s.heap a L es ep t) (tups : Tups P w s.heap L) (at_ : TupS P w s.heap k x) (hu : A.units < cLine) {Q : SetFound → Shared → Prop} (yes : k ∈ L.map (·.2) → Q (.there none) s)
    (no : ∀ K, k ∉ L.map (·.2) → way t.mask (tupH P w k) K ∉ t.place.toList → (∀ d, d < K → way t.mask (tupH P w k) d ∈ t.place.toList) → Q (.free (way t.mask (tupH P w k) K) false) s) :
    wpAny (model P w) A (setSearch a (.ref x) (tupH P w k) true) Q E s := by
  obtain ⟨K, fuel, empty_, before_⟩ := R.tab.first (by rw [List.length_map]; have := R.room; omega) (tupH P w k)
  have big : 10 * SetTable.turns t.mask ≤ 100000 := by
    unfold SetTable.turns
    rcases R.tab.mok with e | e | e <;> rw [e] <;> decide
  exact search_way R tups at_ hu fuel empty_ before_ yes (fun z => no K z empty_ before_) 100000 0 none (Nat.zero_le _) (by omega) rfl fun d j r less => absurd less (Nat.not_lt_zero _)
end

/-! ### a tuple put into a set -/
section
open PySem.Spec
variable {P : Program} {w : World} {A : Around} {E : Value → Shared → Prop} {s : Shared} {a : Addr} {L : List Row2} {es : Array (Int × Value)} {ep : Nat} {t : SetTable}
theorem TupS.off {h h' : Heap} {k : List Str} {a b : Addr} {o : Obj} {es : Array (Int × Value)} {ep : Nat} {t : SetTable} (x : TupS P w h k b) (ho : h.get? a = some o) (hd : o.data = .set es ep t) (sb : Heap.SameBut a h h') : TupS P w h' k b := by
  obtain ⟨o', its, n, ho', c, d, are⟩ := x
  refine ⟨o', its, n, (sb.2 b fun z => ?_).trans ho', c, d, are⟩
  subst z
  rw [ho] at ho'
  cases ho'
  rw [hd] at d
  cases d
/-- rows chosen by an order of their places -/
theorem rows_by {order : List Nat} (p : order.Perm (List.range L.length)) : ∃ L2 : List Row2, L2.Perm L ∧ order.filterMap (fun i => (L[i]?).map (vRow P w)) = L2.map (vRow P w) ∧ ∀ f : Nat → Int, (∀ i r, L[i]? = some r → f i = hRow P w r) → L2.map (hRow P w) = order.map f := by
  refine ⟨order.filterMap fun i => L[i]?, ?_, by rw [List.map_filterMap], fun f hf => ?_⟩
  · refine (p.filterMap _).trans (List.Perm.of_eq ?_)
    have : ∀ n, n ≤ L.length → (List.range n).filterMap (fun i => L[i]?) = L.take n := fun n => by
      induction n with
      | zero => intro _; rfl
      | succ n more =>
        intro le
        rw [List.range_succ, List.filterMap_append, more (by omega), List.take_succ]
        cases e : L[n]? with
        | none => rw [List.getElem?_eq_none_iff] at e; omega
        | some r => simp [e]
    rw [this _ (Nat.le_refl _), List.take_length]
  · have inside : ∀ i ∈ order, i < L.length := fun i hi => List.mem_range.mp (p.mem_iff.mp hi)
    clear p
    induction order with
    | nil => rfl
    | cons i order more =>
      have e := List.getElem?_eq_getElem (inside i List.mem_cons_self)
      rw [List.filterMap_cons_some e, List.map_cons, List.map_cons, hf i _ e, more fun j hj => inside j (List.mem_cons_of_mem _ hj)]
/-- what stands at a, without the word whether all is hashed by value -/
theorem relay_set {o : Obj} (ho : s.heap.get? a = some o) (ex : o.ExactSet) (hd : o.data = .set es ep t) (rows : es.toList = L.map (vRow P w)) (sz : t.place.size = es.size) (dm : t.dummies = #[]) (low : es.size ≤ t.mask) (once : (L.map (·.2)).Nodup)
    (led : w.params.followText "set-order" = true ∨ t.led = true) (few : L.length < 64) {wanted M : Nat} (size_ : SetTable.sizeAbove wanted - 1 = M) (mask_ : MaskOk M) (small_ : SetTable.sizeAbove wanted ≤ 128) (room : L.length * 5 < M * 3) {Q : Unit → Shared → Prop}
    (q : ∀ h' L' es' ep' t', Heap.SameBut a s.heap h' → SpSt P w h' a L' es' ep' t' → L'.Perm L → Q () { s with heap := h' }) : wpAny (model P w) A (setRelay a wanted) Q E s := by
  have lenE : es.size = L.length := by have := congrArg List.length rows; simpa using this
  obtain ⟨t2, order, laid, perm, T, mask2, led2, _, _⟩ := relaid_ok t (hs := es.map (·.1)) (wanted := wanted) size_ mask_ (by rw [Array.size_map]; omega)
  rw [Array.size_map, lenE] at perm
  obtain ⟨L2, permL, vals, hashes⟩ := rows_by (P := P) (w := w) perm
  have rowE : ∀ i, es[i]? = (L[i]?).map (vRow P w) := fun i => by rw [← Array.getElem?_toList, rows, List.getElem?_map]
  rw [← hashes (fun i => (es.map (·.1)).getD i 0) fun i r e => by rw [Array.getD_eq_getD_getElem?, Array.getElem?_map, rowE, e]; rfl] at T
  have rows2 : (order.filterMap fun i => es[i]?).toList = L2.map (vRow P w) := by
    rw [Array.toList_filterMap, ← vals]
    congr 1
    funext i
    exact rowE i
  have len2 : (order.filterMap fun i => es[i]?).size = L.length := by have := congrArg List.length rows2; rw [List.length_map, permL.length_eq] at this; exact this
  rw [setRelay_eq]
  refine wpAny_bind (wpAny_setState_of ho hd (fits_of sz dm low) ?_)
  dsimp only
  rw [if_neg (by rw [sizeLine_eq]; omega)]
  try refine wpAny_bind (wpAny_pure ?_)
  rw [laid]
  dsimp only
  refine wpAny_bind ?_
  rw [if_neg (by rw [len2, lenE]; simp)]
  try refine wpAny_bind (wpAny_pure ?_)
  refine wpAny_pure (wpAny_storeSet_of ho hd (q _ L2 _ (ep + 1) t2 (Heap.SameBut.update ..) ⟨⟨_, store_at ho hd, ex, rfl⟩, rows2, T, (permL.map (·.2)).nodup_iff.mpr once, led2 ▸ led, ?_, permL.length_eq ▸ few⟩ permL) (by rw [len2, sizeLine_eq]; omega))
  rw [permL.length_eq, mask2]; exact room
variable {x : Addr} {k : List Str}
/-- the table behind a put: by value or not -/
theorem tab_word {t : SetTable} {hs : List Int} (T : TabOk t hs) (y : Bool) : TabOk (if y = true then t else { t with plain := false }) hs := by
  cases y
  · exact ⟨T.ris, T.dm, T.sz, T.mok, T.bd, T.reach⟩
  · exact T
/-- k put in -/
theorem add_key (R : SpSt P w s.heap a L es ep t) (tups : Tups P w s.heap L) (at_ : TupS P w s.heap k x) (hu : A.units < cLine) (few : L.length + 1 < 64) {Q : Bool → Shared → Prop}
    (q : ∀ b h' L' es' ep' t', Heap.SameBut a s.heap h' → SpSt P w h' a L' es' ep' t' → (k ∈ L.map (·.2) → L' = L) → (k ∉ L.map (·.2) → L'.Perm ((x, k) :: L)) → Q b { s with heap := h' }) :
    wpAny (model P w) A (setAddHashed a (.ref x) (tupH P w k)) Q E s := by
  obtain ⟨o, ho, ex, hd⟩ := R.ob
  unfold setAddHashed
  refine wpAny_holding ?_
  rw [show (100000 : Nat) = 99999 + 1 from rfl, setAddHashedIn_succ]
  refine wpAny_bind (wpAny_setState_of ho hd R.fits ?_)
  dsimp only
  rw [if_neg (by simp [byScan, Value.scannable])]
  try refine wpAny_bind (wpAny_pure ?_)
  refine wpAny_bind (search_key R tups at_ hu (fun there => wpAny_pure (q false s.heap L es ep t (Heap.SameBut.refl a s.heap) R (fun _ => rfl) fun z => absurd there z)) fun K new_ empty_ before_ => ?_)
  dsimp only
  refine wpAny_bind (wpAny_setState_of ho hd R.fits ?_)
  dsimp only
  obtain ⟨ep_, le, T, mask1, led1, _, _, _, fill1⟩ := R.tab.put empty_ before_
  generalize t.put (way t.mask (tupH P w k) K) = tp at ep_ T mask1 led1 fill1 ⊢
  obtain ⟨t1, p⟩ := tp
  dsimp only at ep_ T mask1 led1 fill1 ⊢
  rw [← ep_] at le T
  -- the rest, whatever is told of the hash
  have rest : ∀ y : Bool, wpAny (model P w) A (do
      storeSet a (SetTable.insertAt es p (tupH P w k, Value.ref x)) (if y = true then t1 else { t1 with plain := false })
      if (!false && (if y = true then t1 else { t1 with plain := false }).tooFull) = true then setRelay a (SetTable.grown (es.size + 1))
      return true) Q E s := fun y => by
    have T2 := tab_word T y
    have full_ : (if y = true then t1 else { t1 with plain := false }).tooFull = t1.tooFull := by cases y <;> rfl
    have led2 : (if y = true then t1 else { t1 with plain := false }).led = t1.led := by cases y <;> rfl
    have mask2 : (if y = true then t1 else { t1 with plain := false }).mask = t.mask := by rw [← mask1]; cases y <;> rfl
    rw [full_]
    generalize (if y = true then t1 else { t1 with plain := false }) = t2 at T2 led2 mask2 ⊢
    have rows1 : (SetTable.insertAt es p (tupH P w k, Value.ref x)).toList = (L.take p ++ (x, k) :: L.drop p).map (vRow P w) := by
      rw [SetTable.toList_insertAt, R.rows, List.map_append, List.map_cons, List.map_take, List.map_drop]
    have hashes1 : (L.take p ++ (x, k) :: L.drop p).map (hRow P w) = (L.map (hRow P w)).take p ++ tupH P w k :: (L.map (hRow P w)).drop p := by
      rw [List.map_append, List.map_cons, List.map_take, List.map_drop]
    rw [← hashes1] at T2
    have perm1 : (L.take p ++ (x, k) :: L.drop p).Perm ((x, k) :: L) := by
      have := List.perm_middle (a := (x, k)) (l₁ := L.take p) (l₂ := L.drop p)
      rwa [List.take_append_drop] at this
    generalize L.take p ++ (x, k) :: L.drop p = L1 at rows1 T2 perm1
    generalize SetTable.insertAt es p (tupH P w k, Value.ref x) = es1 at rows1 ⊢
    have len1 : L1.length = L.length + 1 := perm1.length_eq
    have lenE : es1.size = L.length + 1 := by have := congrArg List.length rows1; rw [List.length_map, len1] at this; exact this
    have once1 : (L1.map (·.2)).Nodup := (perm1.map (·.2)).nodup_iff.mpr (List.nodup_cons.mpr ⟨new_, R.once⟩)
    have ledL : w.params.followText "set-order" = true ∨ t2.led = true := by rw [led2, led1]; exact R.led
    have sz2 : t2.place.size = es1.size := by have := T2.sz; rw [List.length_map] at this; omega
    refine wpAny_bind (wpAny_storeSet_of ho hd ?_ (by rw [lenE, sizeLine_eq]; omega))
    have sb : Heap.SameBut a s.heap (s.heap.update a (Obj.putSet es1 t2)) := Heap.SameBut.update ..
    have ho1 := store_at (es' := es1) (t' := t2) ho hd
    generalize s.heap.update a (Obj.putSet es1 t2) = h1 at sb ho1 ⊢
    have fillT : t1.tooFull = decide ((L.length + 1) * 5 ≥ t.mask * 3) := by
      unfold SetTable.tooFull
      rw [fill1, List.length_map, mask1]
    rw [fillT]
    have roomL := R.room
    by_cases full : (L.length + 1) * 5 ≥ t.mask * 3
    · have two : (t.mask = 7 ∧ L.length = 4) ∨ (t.mask = 31 ∧ L.length = 18) := by rcases R.tab.mok with e | e | e <;> rw [e] at full roomL <;> omega
      have again : ∀ M, SetTable.sizeAbove (SetTable.grown (L.length + 1)) - 1 = M → MaskOk M → SetTable.sizeAbove (SetTable.grown (L.length + 1)) ≤ 128 → (L.length + 1) * 5 < M * 3 →
          wpAny (model P w) A (setRelay a (SetTable.grown (L.length + 1))) (fun _ s' => wpAny (model P w) A (pure true) Q E s') E { s with heap := h1 } := fun M e1 e2 e3 e4 =>
        relay_set (s := { s with heap := h1 }) ho1 ⟨ex.1, ex.2.1, ex.2.2⟩ rfl rows1 sz2 T2.dm (by omega) once1 ledL (by omega) e1 e2 e3 (by omega) fun h2 L2 es2 ep2 t3 sb2 R2 perm2 => wpAny_pure (q true h2 L2 es2 ep2 t3 (sb.trans sb2) R2 (fun z => absurd z new_) fun _ => perm2.trans perm1)
      simp only [Bool.not_false, Bool.true_and, decide_eq_true full, if_true]
      rw [R.size]
      refine wpAny_bind ?_
      rcases two with ⟨_, e⟩ | ⟨_, e⟩
      · exact again 31 (by rw [e, size_20]) (.inr (.inl rfl)) (by rw [e, size_20]; decide) (by omega)
      · exact again 127 (by rw [e, size_76]) (.inr (.inr rfl)) (by rw [e, size_76]; decide) (by omega)
    · simp only [Bool.not_false, Bool.true_and, decide_eq_false full, Bool.false_eq_true, if_false]
      try refine wpAny_bind (wpAny_pure ?_)
      exact wpAny_pure (q true h1 L1 es1 (ep + 1) t2 sb ⟨⟨_, ho1, ⟨ex.1, ex.2.1, ex.2.2⟩, rfl⟩, rows1, T2, once1, ledL, by omega, by omega⟩ (fun z => absurd z new_) fun _ => perm1)
  cases plain_ : t1.plain with
  | true =>
    simp only [if_true]
    refine wpAny_bind (tup_byValue at_ fun y => ?_)
    exact rest y
  | false =>
    simp only [Bool.false_eq_true, if_false]
    exact wpAny_bind (wpAny_pure (rest true))
end

/-! ### set(a list of tuples of texts), sorted(such a set) -/
section
open PySem.Spec
structure Gets (done L : List Row2) : Prop where
  sub : ∀ r ∈ L, r ∈ done
  all : ∀ r ∈ done, r.2 ∈ L.map (·.2)
theorem Gets.nil : Gets [] [] := ⟨fun _ h => h, fun _ h => (nomatch h)⟩
theorem Gets.snoc {done L L' : List Row2} {r : Row2} (g : Gets done L) (a : r.2 ∈ L.map (·.2) → L' = L) (b : r.2 ∉ L.map (·.2) → L'.Perm (r :: L)) : Gets (done ++ [r]) L' := by
  by_cases h : r.2 ∈ L.map (·.2)
  · rw [a h]
    refine ⟨fun x hx => List.mem_append_left _ (g.sub x hx), fun x hx => ?_⟩
    rcases List.mem_append.mp hx with z | z
    · exact g.all x z
    · rw [List.mem_singleton.mp z]; exact h
  · have p := b h
    refine ⟨fun x hx => ?_, fun x hx => ?_⟩
    · rcases List.mem_cons.mp (p.mem_iff.mp hx) with z | z
      · rw [z]; exact List.mem_append_right _ List.mem_cons_self
      · exact List.mem_append_left _ (g.sub x z)
    · rw [(p.map (·.2)).mem_iff, List.map_cons]
      rcases List.mem_append.mp hx with z | z
      · exact List.mem_cons_of_mem _ (g.all x z)
      · rw [List.mem_singleton.mp z]; exact List.mem_cons_self
variable {P : Program} {w : World} {A : Around} {E : Value → Shared → Prop} {s : Shared}
theorem TupS.stays {h h' : Heap} {k : List Str} {b : Addr} (x : TupS P w h k b) (keep : ∀ b o, h.get? b = some o → h'.get? b = some o) : TupS P w h' k b := have ⟨o, its, n, ho, r⟩ := x; ⟨o, its, n, keep b o ho, r⟩
theorem SpSt.stays {h h' : Heap} {a : Addr} {L : List Row2} {es : Array (Int × Value)} {ep : Nat} {t : SetTable} (R : SpSt P w h a L es ep t) (keep : ∀ o, h.get? a = some o → h'.get? a = some o) : SpSt P w h' a L es ep t :=
  ⟨have ⟨o, ho, r⟩ := R.ob; ⟨o, keep o ho, r⟩, R.rows, R.tab, R.once, R.led, R.room, R.few⟩
/-- a set of the rows L, whatever its table -/
def SpSet (P : Program) (w : World) (h : Heap) (a : Addr) (L : List Row2) : Prop := ∃ es ep t, SpSt P w h a L es ep t
theorem SpSet.fresh {h : Heap} {a : Addr} (at_ : h.get? a = some (freshO w)) : SpSet P w h a [] :=
  ⟨#[], 0, _, ⟨_, at_, ⟨rfl, rfl, rfl⟩, rfl⟩, rfl, ⟨.nil, rfl, rfl, .inl rfl, fun x hx => (nomatch hx), fun i h j hi => (by simp at hi)⟩, .nil, by cases w.params.followText "set-order" <;> first | exact .inl rfl | exact .inr rfl, by show 0 * 5 < 7 * 3; decide, by show 0 < 64; decide⟩
/-- the loop that puts what an iterator has left into the set at S -/
theorem sp_update {I S : Addr} {fp wr : List Addr} {G : Array GenState → Array GenState → Prop} {n : Nat} {Pv : Nat → Value → Prop} {St : Nat → Shared → Prop} {R : Result → Shared → Prop} {ks : List Row2} (W : WalksS P w A.in1 I fp wr G n Pv St) (apart_ : S ∉ fp)
    (is_ : ∀ i v, Pv i v → ∃ r, ks[i]? = some r ∧ v = .ref r.1) (len : ks.length = n) (room : ∀ L : List Row2, (L.map (·.2)).Nodup → (∀ r ∈ L, r ∈ ks) → L.length + 1 < 64) (hu : A.in1.units < cLine) {h0 : Heap} (tups : Tups P w h0 ks) (new : ∀ b ∈ S :: wr, h0.get? b = none) :
    ∀ (rest done : List Row2) (s : Shared), done ++ rest = ks → St done.length s → (∀ b o, h0.get? b = some o → s.heap.get? b = some o) → (∃ L, SpSet P w s.heap S L ∧ Gets done L) →
      (∀ s' L, Moved (S :: wr) G s s' → SpSet P w s'.heap S L → Gets ks L → R (.ok (.ret .none)) s') → codeAny (model P w) A (.builtin "set.update.loop" ⟨[.ref S, .ref I], []⟩) R s
  | [], done, s, all, st, old, ⟨L, ⟨es, ep, t, R0⟩, g⟩, q => by
    rw [List.append_nil] at all; subst all; subst len
    exact update_once (wpAny_bind (W.done s _ _ st fun s' mv => wpAny_pure (q s' L (mv.mono fun b hb => List.mem_cons_of_mem _ hb) ⟨es, ep, t, R0.stays fun o at_ => mv.heap S o (fun z => apart_ (W.sub _ z)) at_⟩ g)))
  | x :: rest, done, s, all, st, old, ⟨L, ⟨es, ep, t, R0⟩, g⟩, q => by
    have lt : done.length < n := by rw [← len, ← all, List.length_append, List.length_cons]; omega
    refine update_once (wpAny_bind (W.item done.length s _ _ lt st fun v s' pv st' mv => ?_))
    obtain ⟨r, er, rfl⟩ := is_ _ _ pv
    obtain rfl : r = x := by rw [← all, List.getElem?_append_right (Nat.le_refl _), Nat.sub_self] at er; exact (Option.some.inj er).symm
    have old1 : ∀ b o, h0.get? b = some o → s'.heap.get? b = some o := fun b o e => mv.heap b o (fun z => by rw [new b (List.mem_cons_of_mem _ z)] at e; cases e) (old b o e)
    have R1 := R0.stays (h' := s'.heap) fun o at_ => mv.heap S o (fun z => apart_ (W.sub _ z)) at_
    have mem_ : ∀ y ∈ done, y ∈ ks := fun y hy => all ▸ List.mem_append_left _ hy
    have tups1 : Tups P w s'.heap L := fun y hy => (tups y (mem_ y (g.sub y hy))).stays old1
    have at_ : TupS P w s'.heap r.2 r.1 := (tups r (all ▸ List.mem_append_right _ List.mem_cons_self)).stays old1
    show wpAny _ A.in1 (holding [Value.ref r.1] (setAdd S (.ref r.1)) >>= _) _ _ s'
    unfold setAdd
    refine wpAny_bind (wpAny_holding (wpAny_holding (wpAny_bind (wpAny_pyHash_tuple hu at_ (add_key (s := { s' with toks := s'.toks + (r.2.length + 1) }) R1 tups1 at_ hu (room L R0.once fun y hy => mem_ y (g.sub y hy)) fun b h' L' es' ep' t' sb R2 c1 c2 => wpAny_pure ⟨plainId_quiet PyProof.Rows.F.plain_set_update_loop _, ?_⟩)))))
    refine sp_update W apart_ is_ len room hu tups new rest (done ++ [r]) _ (by rw [List.append_assoc]; exact all) (by rw [List.length_append]; exact W.frame _ s' _ _ st' (Nat.le_add_right _ _) fun b hb o e => by rw [sb.2 b fun z => apart_ (z ▸ hb)]; exact e) (fun b o e => ?_) ⟨L', ⟨es', ep', t', R2⟩, g.snoc c1 c2⟩ fun s'' L3 mv' R3 g3 => q s'' L3 ?_ R3 g3
    · rw [sb.2 b fun z => by rw [z, new S List.mem_cons_self] at e; cases e]; exact old1 b o e
    · exact Moved.trans W.gtrans ((mv.mono fun b hb => List.mem_cons_of_mem _ hb).then_heap (Nat.le_add_right _ _) fun b o nb at_ => by rw [sb.2 b fun z => nb (z ▸ List.mem_cons_self)]; exact at_) mv'
set_option maxHeartbeats 3200000 in
/-- the new set's __init__ over a list of tuples; h0: the heap ahead of it -/
theorem init_spots {S l : Addr} {items : Array Value} {ks : List Row2} {R : Shared → Prop} {h0 : Heap} (calm : A.handled = none) (hu : A.units + 8 < cLine) (new : s.heap.get? S = some (freshO w)) (new0 : h0.get? S = none) (size0 : h0.objs.size ≤ s.heap.objs.size) (old : ∀ b o, h0.get? b = some o → s.heap.get? b = some o)
    (ne : S ≠ l) (at_ : s.heap.IsList l items) (are : items.toList = ks.map fun r => Value.ref r.1) (tups : Tups P w h0 ks) (room : ∀ L : List Row2, (L.map (·.2)).Nodup → (∀ r ∈ L, r ∈ ks) → L.length + 1 < 64)
    (q : ∀ h' t L, (∀ b o, b ≠ S → s.heap.get? b = some o → h'.get? b = some o) → SpSet P w h' S L → Gets ks L → R { s with heap := h', toks := t }) :
    codeAny (model P w) A (.call (.builtin "set.__init__") ⟨[.ref S, .ref l], []⟩) (wants (fun r s' => r = .none ∧ R s') E) s := by
  have ty : s.TypeIs (.ref S) "set" := ⟨_, new, rfl⟩
  have len : items.size = ks.length := by have := congrArg List.length are; simpa using this
  refine codeAny_call_builtin (R := wants (fun r s' => r = .none ∧ R s') E) F.called_set.init.plain F.entry_set_init (check_set_init_1 ty ?_)
  have ⟨ol, ho, hc, n, hd⟩ := id at_
  obtain ⟨cl_, dict_, data_, slots_⟩ := ol
  dsimp only at hc hd
  subst hc hd
  have c1 := F.sub_list_set
  have c2 := F.sub_list_frozenset
  have c3 : (Value.type "list" == Value.type "dict") = false := by decide
  delta Builtin.«set.__init__» noKeywords Builtin.Frozenset.updateFrom
  generalize hold : pyIter = it_
  wp_walk
  subst hold
  have lt1 : l < s.heap.objs.size := Heap.lt_size ho
  have lt2 : S < s.heap.objs.size := Heap.lt_size new
  have none0 : h0.get? s.heap.objs.size = none := by
    cases z : h0.get? s.heap.objs.size with
    | none => rfl
    | some o => exact absurd (Nat.lt_of_lt_of_le (Heap.lt_size z) size0) (Nat.lt_irrefl _)
  refine wpAny_pyIter_list at_ (wpAny_bind (wpAny_runValue (sp_update (ks := ks) (h0 := h0) ((Walks.list (A := A.in1.in1) (by simp [calm]) s.heap.objs.size l (Nat.ne_of_lt lt1) items).toS) (S := S) ?_ ?_ len.symm room ?_ tups ?_ ks [] _ rfl ⟨⟨_, Heap.get?_push_size _ rfl, rfl, rfl⟩, at_.push _⟩ (fun b o e => Heap.get?_push_of_some _ (old b o e)) ⟨[], SpSet.fresh (Heap.get?_push_of_some _ new), Gets.nil⟩ ?_)))
  · simp only [List.mem_cons, List.not_mem_nil, or_false, not_or]; exact ⟨Nat.ne_of_lt lt2, ne⟩
  · intro i v hv0
    have hv : items.toList[i]? = some v := by rw [Array.getElem?_toList]; exact hv0
    rw [are, List.getElem?_map] at hv
    obtain ⟨r, er, rfl⟩ := Option.map_eq_some_iff.mp hv
    exact ⟨r, er, rfl⟩
  · show A.units + 1 + 1 < cLine
    omega
  · intro b hb
    rcases List.mem_cons.mp hb with z | z
    · rw [z]; exact new0
    · rw [List.mem_singleton.mp z]; exact none0
  · intro s' L mv R1 g1
    obtain ⟨h', gen', drawn', t', os'⟩ := s'
    obtain rfl : gen' = s.gens := mv.gens
    obtain rfl : drawn' = s.drawn := mv.drawn
    obtain rfl : os' = s.os := mv.os
    refine wpAny_pure (wpAny_pure ⟨rfl, q h' t' L (fun b o nb old => mv.heap b o ?_ (Heap.get?_push_of_some _ old)) R1 g1⟩)
    simp only [List.mem_cons, List.not_mem_nil, or_false, not_or]
    exact ⟨nb, Nat.ne_of_lt (Heap.lt_size old)⟩
end

/-! ### rules of the sets of tuples -/
section
open PySem.Spec PySem.W
abbrev SpRow := Addr × Spot
abbrev rw2 (L : List SpRow) : List Row2 := L.map fun r => (r.1, r.2.items)
/-- as a tracked thing -/
def SpO (P : Program) (w : World) (a : Addr) (L : List SpRow) : HO := .ext fun h => SpSet P w h a (rw2 L)
theorem SpSet.ok {P : Program} {w : World} {H : Hp} {h : Heap} {a : Addr} {L : List SpRow} (R : SpSet P w h a (rw2 L)) : ObjOk P w H h a (SpO P w a L) :=
  ⟨R, have ⟨_, _, _, R0⟩ := R; have ⟨o, at_, _⟩ := R0.ob; ⟨o, at_⟩, fun _ _ ⟨es, ep, t, R1⟩ keep => ⟨es, ep, t, R1.stays fun o e => keep o e⟩⟩
theorem perm_back {α β : Type} {f : α → β} : ∀ {m n : List β}, m.Perm n → ∀ {l : List α}, n = l.map f → ∃ l' : List α, l'.Perm l ∧ m = l'.map f := fun h => by
  induction h with
  | nil => exact fun e => ⟨[], by rw [List.map_eq_nil_iff.mp e.symm], rfl⟩
  | cons x _ more =>
    intro l e
    cases l with
    | nil => cases e
    | cons a l =>
      injection e with e1 e2
      obtain ⟨l', p, q⟩ := more e2
      exact ⟨a :: l', p.cons a, by rw [e1, q]; rfl⟩
  | swap x y r =>
    intro l e
    match l, e with
    | a :: b :: l, e =>
      injection e with e1 e2
      injection e2 with e2 e3
      exact ⟨b :: a :: l, .swap a b l, by rw [e1, e2, e3]; rfl⟩
    | [a], e => injection e with _ e2; cases e2
    | [], e => cases e
  | trans _ _ one two =>
    intro l e
    obtain ⟨l1, p1, e1⟩ := two e
    obtain ⟨l2, p2, e2⟩ := one e1
    exact ⟨l2, p2.trans p1, e2⟩
theorem once_le {α : Type} [DecidableEq α] : ∀ {l m : List α}, l.Nodup → (∀ x ∈ l, x ∈ m) → l.length ≤ m.length
  | [], _, _, _ => Nat.zero_le _
  | x :: l, m, nd, sub => by
    obtain ⟨a, b⟩ := List.nodup_cons.mp nd
    have here := sub x List.mem_cons_self
    have := once_le (m := m.erase x) b fun y hy => (List.mem_erase_of_ne fun z : y = x => a (z ▸ hy)).mpr (sub y (List.mem_cons_of_mem _ hy))
    rw [List.length_erase_of_mem here] at this
    have := List.length_pos_of_mem here
    rw [List.length_cons]; omega
variable {X : Cx}
theorem SpAt.tups {pins : List (Addr × Obj)} {σ : L2.St} {H : Hp} {s : Shared} (I : Inv X pins σ H s) {a : Addr} {k : Spot} (at_ : SpAt H a k) : TupS X.prog X.w s.heap k.items a := by
  obtain ⟨its, vals, ⟨o, ho, hc, n, hd⟩, _⟩ := I.tuple (SqT.of at_)
  refine ⟨o, its.toArray, n, ho, hc, hd, ?_⟩
  have : ∀ {xs : List Str} {us : List Value}, Vals (xs.map V.str) us → ItemsAre (PySem.strKind X.prog X.w) xs us := fun {xs} => by
    induction xs with
    | nil => intro us r; cases r; exact .nil
    | cons x xs more =>
      intro us r
      cases r with
      | cons rx t =>
        obtain ⟨tk, rfl⟩ := rx
        exact .cons (show Value.isStrOf x (.str x tk) = true from beq_self_eq_true x) (more t)
  simpa using this vals
def rSetSp (K : PySem.W.Frag) (P : Program) (w : World) : List V → Hp → VK → Prop := fun vs H Q => ∃ (a : Addr) (ps : List Addr) (ks : List Spot), vs = [.ref a] ∧ SqL K H a (ps.map V.ref) ∧ Paired (SpAt H) ps ks ∧ (∃ U : List Spot, U.length < 63 ∧ ∀ k ∈ ks, k ∈ U) ∧
  ∀ (p : Addr) (L : List SpRow), H p = none → (∀ r ∈ L, r.2 ∈ ks ∧ SpAt H r.1 r.2) → (∀ k ∈ ks, k ∈ L.map (·.2)) → Q (.ref p) (upd H p (SpO P w p L))
theorem zip_spots {H : Hp} : ∀ {ps : List Addr} {ks : List Spot}, Paired (SpAt H) ps ks → (ps.zip ks).map (·.1) = ps ∧ (ps.zip ks).map (·.2) = ks ∧ ∀ r ∈ ps.zip ks, SpAt H r.1 r.2
  | _, _, .nil => ⟨rfl, rfl, fun _ h => nomatch h⟩
  | _, _, .cons h t => by
    obtain ⟨a, b, c⟩ := zip_spots t
    refine ⟨by rw [List.zip_cons_cons, List.map_cons, a], by rw [List.zip_cons_cons, List.map_cons, b], fun r hr => ?_⟩
    rcases List.mem_cons.mp hr with z | z
    · rw [z]; exact h
    · exact c r z
theorem refs_vals : ∀ {ps : List Addr} {us : List Value}, Vals (ps.map V.ref) us → us = ps.map Value.ref
  | [], _, .nil => rfl
  | p :: ps, _, .cons r t => by cases r; rw [refs_vals t]; rfl
theorem cr_setSp (calm : X.calm = true) (hu : X.A.units + 64 < cLine) : CallR X (.type "set") (rSetSp X.K X.prog X.w) := fun pins s σ H vs us Q I rel ⟨a, ps, ks, e, at_, pair_, ⟨U, few, inU⟩, q⟩ => by
  subst e
  rw [Vals.ref1 rel]
  have ⟨its, vals, is_, _⟩ := I.list at_
  have list_ := is_.isList
  obtain ⟨z1, z2, z3⟩ := zip_spots pair_
  generalize ps.zip ks = zs at z1 z2 z3
  subst z1 z2
  refine made_set fun A' same units => ?_
  have lt : a < s.heap.objs.size := have ⟨_, h, _⟩ := list_; Heap.lt_size h
  have none0 : s.heap.get? s.heap.objs.size = none := by
    cases z : s.heap.get? s.heap.objs.size with
    | none => rfl
    | some o => exact absurd (Heap.lt_size z) (Nat.lt_irrefl _)
  have items_ : its = (rw2 zs).map fun r => Value.ref r.1 := by rw [List.map_map, refs_vals vals, List.map_map]; rfl
  refine init_spots (h0 := s.heap) (items := its.toArray) (ks := rw2 zs) (same.trans (I.ok.hd calm)) (by omega) (Heap.get?_push_size _ rfl) none0 (by rw [Heap.size_push]; exact Nat.le_succ _) (fun b o e => Heap.get?_push_of_some _ e) (Nat.ne_of_gt lt) (list_.push _) (by simpa using items_) (fun r hr => ?_) (fun L once sub => ?_) fun h' t L keep R g => ?_
  · obtain ⟨z, hz, rfl⟩ := List.mem_map.mp hr
    exact SpAt.tups I (z3 z hz)
  · have := once_le (l := L.map (·.2)) (m := U.map fun k : Spot => k.items) once fun y hy => by
      obtain ⟨r, hr, rfl⟩ := List.mem_map.mp hy
      obtain ⟨z, hz, rfl⟩ := List.mem_map.mp (sub r hr)
      exact List.mem_map.mpr ⟨z.2, inU _ (List.mem_map.mpr ⟨z, hz, rfl⟩), rfl⟩
    rw [List.length_map, List.length_map] at this
    omega
  · have keep' : ∀ b o, s.heap.get? b = some o → h'.get? b = some o := fun b o old => keep b o (Nat.ne_of_lt (Heap.lt_size old)) (Heap.get?_push_of_some _ old)
    obtain ⟨L2, rfl⟩ : ∃ L2 : List SpRow, L = rw2 L2 := ⟨L.map fun r => (r.1, ⟨r.2⟩), by unfold rw2; rw [List.map_map]; exact (List.map_id'' (fun _ => rfl) _).symm⟩
    refine ⟨.ref _, upd H s.heap.objs.size (SpO X.prog X.w s.heap.objs.size L2), I.laid keep' (Nat.le_refl _) (SpSet.ok R), rfl, q _ L2 (I.hok.fresh (Nat.le_refl _)) (fun r hr => ?_) fun k hk => ?_⟩
    · obtain ⟨z, hz, e⟩ := List.mem_map.mp (g.sub (r.1, r.2.items) (List.mem_map.mpr ⟨r, hr, rfl⟩))
      obtain ⟨z1, ⟨z2⟩⟩ := z
      obtain ⟨r1, ⟨r2⟩⟩ := r
      obtain ⟨rfl, rfl⟩ : z1 = r1 ∧ z2 = r2 := ⟨congrArg Prod.fst e, congrArg Prod.snd e⟩
      exact ⟨List.mem_map.mpr ⟨_, hz, rfl⟩, z3 _ hz⟩
    · obtain ⟨z, hz, rfl⟩ := List.mem_map.mp hk
      obtain ⟨y, hy, e⟩ := List.mem_map.mp (g.all (z.1, z.2.items) (List.mem_map.mpr ⟨z, hz, rfl⟩))
      obtain ⟨r, hr, rfl⟩ := List.mem_map.mp hy
      refine List.mem_map.mpr ⟨r, hr, ?_⟩
      obtain ⟨r1, ⟨r2⟩⟩ := r
      obtain ⟨z1, ⟨z2⟩⟩ := z
      exact congrArg W.Tup.mk e
/-- sorted(s) -/
def rSortSp (P : Program) (w : World) : List V → Hp → VK → Prop := fun vs H Q => ∃ (a : Addr) (L : List SpRow), vs = [.ref a] ∧ H a = some (SpO P w a L) ∧ (∀ r ∈ L, SpAt H r.1 r.2 ∧ r.2.items ≠ []) ∧
  ∀ (p : Addr) (out : List V) (ks : List Spot), H p = none → ks.Perm (L.map (·.2)) → ks.Nodup → Paired (fun v k => ∃ q, v = .ref q ∧ SpAt H q k) out (srtD ks) → Q (.ref p) (upd H p (.lst out))
theorem cr_sortSp (calm : X.calm = true) (hu : X.A.units + 64 < cLine) : CallR X (.builtin "sorted") (rSortSp X.prog X.w) := fun pins s σ H vs us Q I rel ⟨a, L, e, at_, all, q⟩ => by
  subst e
  rw [Vals.ref1 rel]
  obtain ⟨es, ep, t, R⟩ : SpSet X.prog X.w s.heap a (rw2 L) := (I.hok a _ at_).1
  obtain ⟨o, ho, ex, hd⟩ := R.ob
  have few : L.length < 64 := by have := R.few; rwa [List.length_map] at this
  have size_ := R.size
  rw [List.length_map] at size_
  refine Calls.call_function_entry kind_sorted plain_sorted entry_sorted (args_sorted1 _) ?_
  unfold Builtin.«sorted»
  refine wpAny_bind (m := checkCount "sorted" 1 1 _) (wpAny_pure (wpAny_bind (collect_set (A := X.A.in1) (I.ok.hd calm) ⟨o, ho, ex.1, hd⟩ R.fits (by unfold scanBound; omega) R.tab.ris R.led fun s1 vs keep big gens os perm => ?_)))
  rw [R.rows, List.map_map, List.map_map] at perm
  obtain ⟨L1, perm1, rfl⟩ := perm_back (f := fun r : SpRow => Value.ref r.1) perm rfl
  have once : (L.map (·.2)).Nodup := by
    have h := R.once
    rw [List.map_map] at h
    refine List.Pairwise.of_map (S := (· ≠ ·)) (fun k : Spot => k.items) (fun x y n e => n (congrArg (fun k : Spot => k.items) e)) ?_
    rw [List.map_map]
    exact h
  have once1 : (L1.map (·.2)).Nodup := (perm1.map (·.2)).nodup_iff.mpr once
  obtain ⟨each_, hold⟩ := spots_each I (us := L1.map fun r => Value.ref r.1) (ks := L1.map (·.2)) (by rw [List.length_map, List.length_map]) fun i u k eu ek => by
    rw [List.getElem?_map] at eu ek
    obtain ⟨r, er, rfl⟩ := Option.map_eq_some_iff.mp eu
    rw [er] at ek
    obtain rfl := Option.some.inj ek
    exact ⟨r.1, rfl, (all r (perm1.mem_iff.mp (List.mem_of_getElem? er))).1⟩
  have full : ∀ k ∈ L1.map (·.2), k.items ≠ [] := fun k hk => by
    obtain ⟨r, hr, rfl⟩ := List.mem_map.mp hk
    exact (all r (perm1.mem_iff.mp hr)).2
  have len1 : (L1.map fun r => Value.ref r.1).length < 64 := by rw [List.length_map, perm1.length_eq]; exact few
  have permk := perm1.map (·.2)
  generalize (L1.map fun r => Value.ref r.1) = vs at each_ hold len1 ⊢
  generalize L1.map (·.2) = ks at each_ hold once1 full permk
  refine wpAny_bind (wpAny_newList ?_ (by rw [sizeLine_eq]; omega))
  have there1 : (s1.heap.push (seqObj "list" vs.toArray 0)).get? s1.heap.objs.size = some (seqObj "list" vs.toArray 0) := Heap.get?_push_size _ rfl
  have old : ∀ b o, s.heap.get? b = some o → (s1.heap.push (seqObj "list" vs.toArray 0)).get? b = some o := fun b o e => Heap.get?_push_of_some _ (keep b o e)
  have ne1 : ∀ b o, s.heap.get? b = some o → b ≠ s1.heap.objs.size := fun b o e => Nat.ne_of_lt (Nat.lt_of_lt_of_le (Heap.lt_size e) big)
  show wpAny _ _ _ _ _ { s1 with heap := s1.heap.push (seqObj "list" vs.toArray 0) }
  generalize s1.heap.push (seqObj "list" vs.toArray 0) = h2 at there1 old ⊢
  have hold2 : HoldAll (sortingHeap h2 s1.heap.objs.size vs) vs ks := hold.keeps fun b o e => sortingHeap_old (ne1 b o e) (old b o e)
  have each2 := held_each hold2
  have alike_ : AllAlike (ks.map Datum.toD) := AllAlike.of DatumOrd.alike
  have sable : W.Sortable (ks.map Datum.toD) := .inl fun e he => by
    obtain ⟨k, hk, rfl⟩ := List.mem_map.mp he
    obtain ⟨items⟩ := k
    cases items with
    | nil => exact absurd rfl (full _ hk)
    | cons x r => exact ⟨_, _, rfl⟩
  have size1 : vs.length ≤ sizeLine := by rw [sizeLine_eq]; omega
  refine wpAny_bind (wpAny_holding (wpAny_call_entry slot_list_sort ⟨_, there1, rfl⟩ entry_list_sort (list_sort_vals (s := { s1 with heap := h2 }) there1 (SortsAt.data (s := { s1 with heap := sortingHeap h2 s1.heap.objs.size vs }) (ds := ks.map Datum.toD) (each_map (R := fun v d => ∃ as, Reads (sortingHeap h2 s1.heap.objs.size vs) v d as) Datum.toD each2) alike_ sable fun e he => ?_) size1 ⟨.none, rfl, ?_⟩) (args_list_sort _)))
  · obtain ⟨k, _, rfl⟩ := List.mem_map.mp he
    have := Datum.depth_le k
    have dep : Datum.depth Spot = 1 := rfl
    show X.A.units + 2 + _ < _
    omega
  · have eo := sortVals_data (R := fun u k => ∃ v, (∃ q, v = V.ref q ∧ SpAt H q k) ∧ RelV v u) false each_ each2 alike_
    rw [leD_eq] at eo
    obtain ⟨ov, ro, po⟩ := out_vals eo
    have lo := sortVals_length (κ := dataKind (sortingHeap h2 s1.heap.objs.size vs) (ks.map Datum.toD)) (ks := vs) (vs := vs) false rfl
    obtain ⟨e', there2⟩ := sortedHeap_at (vs := vs) (out := (sortVals (dataKind (sortingHeap h2 s1.heap.objs.size vs) (ks.map Datum.toD)) false vs vs).toArray) there1
    have fresh_ : H s1.heap.objs.size = none := I.hok.fresh big
    have kept : ∀ b o, s.heap.get? b = some o → (sortedHeap h2 s1.heap.objs.size vs (sortVals (dataKind (sortingHeap h2 s1.heap.objs.size vs) (ks.map Datum.toD)) false vs vs).toArray).get? b = some o := fun b o e => (sortedHeap_old (ne1 b o e) (Heap.lt_size (old b o e))).trans (old b o e)
    refine wpAny_pure ⟨_, rfl, .ref s1.heap.objs.size, upd H s1.heap.objs.size (.lst ov), I.call' (ch := []) os (Un.laid kept big fresh_) (I.hok.laid kept big (show ObjOk X.prog X.w _ _ _ (.lst ov) from ⟨?_, _, e', ro, there2⟩)) (by rw [gens]; exact I.bare) (fun _ z => nomatch z), rfl, q _ ov ks fresh_ permk once1 po⟩
    rw [ro.length, lo]; exact size1
end

/-! ### lists of data: in, not in, remove -/
section
open PySem.W
variable {X : Cx}
def rInX (K : PySem.W.Frag) (tell : Bool → Bool) : R2 := fun x y H Q => ∃ (α : Type) (_ : DecidableEq α) (_ : DatumOrd α) (a : α) (xs : List α) (l : Addr) (vs : List V), Datum.depth α ≤ 40 ∧ Dp K H x (Datum.toD a) ∧ y = .ref l ∧ SqL K H l vs ∧ DpA K H vs xs ∧ Q (.bl (tell (decide (a ∈ xs)))) H
theorem op_inX (hu : X.A.units + 64 < cLine) : OpR X (compareOp .In) (rInX X.K id) := fun pins s σ H x y v u Q I rx ry ⟨α, _, _, a, xs, l, vs, deep, da, ey, at_, dp, told⟩ => by
  subst ey; cases ry
  have ⟨its, vals, lies, _⟩ := I.list at_
  exact in_list_datum lies.isList (by simpa using dpA_held I dp vals) (Dp.reads I _ _ _ da rx) (by omega) ⟨.bl _, H, I, rfl, told⟩
theorem op_notInX (hu : X.A.units + 64 < cLine) : OpR X (compareOp .NotIn) (rInX X.K not) := fun pins s σ H x y v u Q I rx ry ⟨α, _, _, a, xs, l, vs, deep, da, ey, at_, dp, told⟩ => by
  subst ey; cases ry
  have ⟨its, vals, lies, _⟩ := I.list at_
  exact notIn_list_datum lies.isList (by simpa using dpA_held I dp vals) (Dp.reads I _ _ _ da rx) (by omega) ⟨.bl _, H, I, rfl, by rw [decide_not]; exact told⟩
def rRemX (K : PySem.W.Frag) : V → List V → Hp → VK → Prop := fun x args H Q => ∃ (α : Type) (_ : DecidableEq α) (_ : DatumOrd α) (l : Addr) (y : V) (vs : List V) (xs : List α) (a : α) (j : Nat), x = .ref l ∧ args = [y] ∧ Datum.depth α ≤ 40 ∧ H l = some (.lst vs) ∧ DpA K H vs xs ∧ Dp K H y (Datum.toD a) ∧
  xs[j]? = some a ∧ (∀ m, m < j → xs[m]? ≠ some a) ∧ Q .non (upd H l (.lst (vs.eraseIdx j)))
theorem mt_removeX (hu : X.A.units + 64 < cLine) : MtM X "list.remove" (rRemX X.K) := fun pins s σ H x args v us Q I rx rxs ⟨α, _, _, l, y, vs, xs, a, j, ex, ea, deep, at_, dp, da, here, first_, told⟩ => by
  subst ex ea; cases rx
  obtain ⟨u, rfl, ru⟩ := rxs.one
  obtain ⟨big, its, n, vals, len, there⟩ := I.lstM at_
  refine remove_list_datum (vs := its.toArray) ⟨_, there, rfl, n, rfl⟩ (by simpa using dpA_held I dp vals) (Dp.reads I _ _ _ da ru) (by omega) here first_ (by rw [List.size_toArray, ← len]; exact big) ?_
  exact ⟨.non, _, I.lset (its' := its.eraseIdx j) (t' := s.toks) at_ there (by rw [List.eraseIdxIfInBounds_toArray]) (vals.eraseIdx j) (Nat.le_trans (List.length_eraseIdx_le ..) big), rfl, told⟩
end
/-! ### list(d.values()), d a dict with tuple keys -/
def tListValT (td : TE) : TE := fun σ H Q => td σ H fun x H1 => ∃ d kvs, x = .ref d ∧ H1 d = some (.dT kvs) ∧ ∀ p, H1 p = none → Q (.ref p) (upd H1 p (.lst (kvs.map (·.2))))
theorem pe_listValT {X : Cx} {e : Expr} {td : TE} {p pos apos cpos : Pos} (calm : X.calm = true) (hg : Gl X "list") (hm : X.mg "list" = none) (hv : bootBuiltins "list" = some (.type "list")) (he : PE X e td)
    (hs : starEach [.Call (.Attribute e "values" apos) [] [] cpos] X.env = (false, eval (.Call (.Attribute e "values" apos) [] [] cpos) X.env) :: starEach [] X.env := by rfl)
    (hbase : attributeBase e "values" X.env (eval e X.env) = eval e X.env := by rfl) (hline : (apos.endLine == cpos.line) = true := by rfl) :
    PE X (.Call (.Name "list" p) [.Call (.Attribute e "values" apos) [] [] cpos] [] pos) (tListValT td) := by
  refine ⟨fun pins s σ H Q I want => ?_⟩
  refine wpAny_Call_Name_kw (ld_blt I hg hm hv ?_)
  refine PyProof.Rows.callWith_type1 ?_ hs rfl
  rw [hs]
  show wpAny _ _ (spliced ((false, eval (.Call (.Attribute e "values" apos) [] [] cpos) X.env) :: backTo pos (starEach [] X.env))) _ _ s
  refine Calls.spliced_cons ?_
  refine wpAny_Call_method (T := "dict") (id := "dict.values") hbase rfl hline PySem.F.plainAttrs_dict PySem.F.slot_dict_values PySem.F.type_dict_values <| thn (he.run pins s σ H _ I want) fun u s1 ⟨x, H1, I1, rx, d, kvs, ex, at_, told⟩ => ?_
  subst ex; cases rx
  obtain ⟨few, mod, xs1, rel, lies⟩ := dt_of I1.hok at_
  obtain ⟨ob, es, ep, there, exact_, data_, ents, _, _⟩ := id lies
  have raw : s1.heap.DictRaw d es ep := ⟨ob, there, exact_, data_⟩
  have l1 : kvs.length = xs1.length := Paired.length rel
  have l2 : es.size = xs1.length := size_of_entries ents
  refine ⟨raw.typeIs, raw_noDict raw, ?_⟩
  have raw2 : (s1.heap.push { cls := .type "dict_values", data := .fields #[.ref d] }).DictRaw d es ep := raw.at fun ob there => Heap.get?_push_of_some _ there
  show wpAny _ _ (callWith cpos (.builtin "dict.values") [.ref d] [] []) _ X.xe s1
  refine method_meetsIn PySem.F.slot_dict_values PySem.F.entry_dict_values rfl (PySem.evalArgs_none ⟨rfl, raw.typeIs, PySem.F.args_dict_values_1 _, _, PySem.meets_dict_values_raw d mod, ⟨es, ep, raw⟩, Calls.spliced_nil ?_⟩)
  refine PySem.W.kdl_call (s := { s1 with heap := s1.heap.push { cls := .type "dict_values", data := .fields #[.ref d] } }) (PySem.KdlSrc.rawValues (es := es) (ep := ep)) (I1.ok.hd calm) ⟨⟨_, Heap.get?_push_size _ rfl, rfl, rfl⟩, raw2⟩ (by omega) fun h2 t2 acc c keep at2 items => ?_
  have keep2 : ∀ b o, s1.heap.get? b = some o → h2.get? b = some o := fun b o old => keep b o (Heap.get?_push_of_some _ old)
  have big : s1.heap.objs.size ≤ (s1.heap.push { cls := .type "dict_values", data := .fields #[.ref d] }).objs.size := by rw [Heap.size_push]; exact Nat.le_succ _
  have vals : Vals (kvs.map (·.2)) acc.toList := by
    have len : acc.toList.length = kvs.length := by rw [Array.length_toList, items.1]; omega
    have each_ : ∀ i v u, (kvs.map (·.2))[i]? = some v → acc.toList[i]? = some u → RelV v u := fun i v u ev eu => by
      obtain ⟨lt, eu2⟩ := items.2 i u (by rw [← Array.getElem?_toList]; exact eu)
      rw [List.getElem?_map] at ev
      obtain ⟨kv, ekv, rfl⟩ := Option.map_eq_some_iff.mp ev
      obtain ⟨x, ex, e1, e2, e3⟩ := paired_get rel ekv
      have en := entry_at ents i
      rw [ex, Array.getElem?_eq_getElem lt] at en
      have en : es[i] = _ := Option.some.inj en
      rw [eu2, en]
      exact e3
    have go : ∀ {xs : List V} {us : List Value}, us.length = xs.length → (∀ i v u, xs[i]? = some v → us[i]? = some u → RelV v u) → Vals xs us := fun {xs} => by
      induction xs with
      | nil => intro us l _; rw [List.length_eq_zero_iff.mp l]; exact .nil
      | cons x xs more =>
        intro us l h
        cases us with
        | nil => cases l
        | cons u us => exact .cons (h 0 x u rfl rfl) (more (by simpa using l) fun i v w ev ew => h (i + 1) v w (by simpa using ev) (by simpa using ew))
    exact go (by rw [List.length_map]; exact len) each_
  exact ⟨.ref _, upd H1 _ (.lst (kvs.map (·.2))), I1.laid (t' := t2) keep2 big (show ObjOk X.prog X.w _ _ _ (.lst _) from ⟨by rw [List.length_map]; exact few, acc.toList, c, vals, by rw [Array.toArray_toList]; exact at2⟩), rfl, told _ (I1.hok.fresh big)⟩
/-! ### [part of x for x in xs if test] -/
theorem lc_part {β γ : Type} {RR : Hp → Addr → β → Prop} {RS : Hp → Addr → γ → Prop} (keepR : TupRel RR) (keepS : TupRel RS) (P : β → Bool) (F : β → γ) {K : PySem.W.Frag} {g : TG} {tt : TT} {te : TE} {vs : List Nat} {σ : L2.St} {H1 : Hp} {D L : Addr} {Fin : Hp → Prop} {ps : List Addr} {ws : List β}
    (gL : H1 L = some (.lst (ps.map V.ref))) (hp : Paired (RR H1) ps ws) (hD : H1 D = none) (few : ws.length < 100000)
    (turn : ∀ (p : Addr) (r : β) (H2 : Hp), r ∈ ws → Same H1 H2 → RR H2 p r → ∀ (C : V → Hp → Prop) (E : Hp → Prop), (∀ q H3, Same H2 H3 → P r = true → RS H3 q (F r) → C (.ref q) H3) → (∀ H3, Same H2 H3 → P r = false → E H3) →
      g (.ref p) (wipe σ vs) H2 fun σ2 H2' => wipe σ2 vs = wipe σ vs ∧ tt σ2 H2' fun b H3 => if b = true then te σ2 H3 C else E H3)
    (fin : ∀ (H' : Hp) (qs : List Addr), Same H1 H' → H' D = some (.lst (qs.map V.ref)) → Paired (RS H') qs ((ws.filter P).map F) → Fin H') : LcTurns (Itl K L) g tt te vs σ (upd H1 D (.lst [])) D Fin := by
  have lp : ps.length = ws.length := Paired.length hp
  refine lc_it (walk_list (xs := ps.map V.ref)) (fun i H' => Same H1 H' ∧ ∃ qs : List Addr, H' D = some (.lst (qs.map V.ref)) ∧ Paired (RS H') qs (((ws.take i).filter P).map F)) ⟨Same.new hD, [], upd_same, .nil⟩ (fun i H' _ p => SqL.of (p.1 _ _ gL)) ?_ ?_
  · rintro i x _ H2 hi ⟨S1, qs, gD, hq⟩ ⟨rfl, ex⟩
    rw [List.getElem?_map] at ex
    obtain ⟨p, ep, rfl⟩ := Option.map_eq_some_iff.mp ex
    obtain ⟨r, er, hr⟩ := paired_get hp ep
    rw [get_take er, List.filter_append, List.map_append]
    have lq : qs.length ≤ ws.length := by
      have e : qs.length = _ := Paired.length hq
      have := List.length_filter_le P (ws.take i)
      rw [List.length_map] at e
      rw [List.length_take] at this
      omega
    refine turn p r H2 (mem_at er) S1 (keepR (fun b ys hb => S1 _ _ hb) hr) _ _ (fun q H3 S2 y hs => ?_) (fun H3 S2 y => ?_)
    · have gD3 := S2 _ _ gD
      have back : ∀ b ys, H3 b = some (.tup ys) → upd H3 D (.lst (qs.map V.ref ++ [.ref q])) b = some (.tup ys) := fun b ys hb => (upd_ne (ne_of hb gD3 fun z => nomatch z)).trans hb
      refine ⟨_, gD3, small5' (by rw [List.length_map]; omega), fun b o hb => ?_, qs ++ [q], by rw [upd_same, List.map_append]; rfl, ?_⟩
      · rw [upd_ne (ne_of_none hb hD)]; exact S2 _ _ (S1 _ _ hb)
      · rw [List.filter_cons_of_pos y, List.filter_nil]
        exact Paired.snoc (Paired.mono (fun _ _ h => keepS (fun b ys hb => back _ _ (S2 _ _ hb)) h) hq) (keepS back hs)
    · rw [List.filter_cons_of_neg (by rw [y]; exact Bool.false_ne_true), List.filter_nil, List.map_nil, List.append_nil]
      exact ⟨S1.trans S2, qs, S2 _ _ gD, Paired.mono (fun _ _ h => keepS (fun b ys hb => S2 _ _ hb) h) hq⟩
  · rintro H2 ⟨S1, qs, gD, hq⟩
    rw [List.length_map, lp, List.take_length] at hq
    exact fin H2 qs S1 gD hq

/-! ### wishes: the least wished moment of a spot, what may be taken -/
section
open PySem.W
abbrev Wish := Spot × Int
def low1 (k : Spot) (o : Option Int) (r : Wish) : Option Int := if r.1 = k then some (match o with | none => r.2 | some u => minPy u r.2) else o
def leastOf (W : List Wish) (k : Spot) : Option Int := W.foldl (low1 k) none
theorem least_snoc (W : List Wish) (r : Wish) (k : Spot) : leastOf (W ++ [r]) k = low1 k (leastOf W k) r := by unfold leastOf; rw [List.foldl_append]; rfl
theorem low_off (k j : Spot) : ∀ (W : List Wish) (o : Option Int), (W.filter fun r => decide (¬ r.1 = k)).foldl (low1 j) o = if j = k then o else W.foldl (low1 j) o
  | [], o => by split <;> rfl
  | r :: W, o => by
    by_cases h : r.1 = k
    · rw [List.filter_cons_of_neg (by simpa using h), low_off k j W o, List.foldl_cons]
      by_cases z : j = k
      · rw [if_pos z, if_pos z]
      · rw [if_neg z, if_neg z]
        have : low1 j o r = o := if_neg fun e => z (e.symm.trans h)
        rw [this]
    · rw [List.filter_cons_of_pos (by simpa using h), List.foldl_cons, low_off k j W]
      by_cases z : j = k
      · rw [if_pos z, if_pos z]
        exact if_neg fun e => h (e.trans z)
      · rw [if_neg z, if_neg z]; rfl
theorem least_off (W : List Wish) (k j : Spot) : leastOf (W.filter fun r => decide (¬ r.1 = k)) j = if j = k then none else leastOf W j := low_off k j W none
theorem low_some (k : Spot) : ∀ (W : List Wish) (o : Option Int), (W.foldl (low1 k) o).isSome = true ↔ o.isSome = true ∨ k ∈ W.map (·.1)
  | [], o => by simp
  | r :: W, o => by
    rw [List.foldl_cons, low_some k W, List.map_cons, List.mem_cons]
    by_cases h : r.1 = k
    · have : low1 k o r = some (match o with | none => r.2 | some u => minPy u r.2) := if_pos h
      rw [this]
      exact ⟨fun _ => .inr (.inl h.symm), fun _ => .inl rfl⟩
    · have : low1 k o r = o := if_neg h
      rw [this]
      exact ⟨fun z => z.imp id .inr, fun z => z.imp id fun y => y.resolve_left fun e => h e.symm⟩
theorem least_some {W : List Wish} {k : Spot} : (leastOf W k).isSome = true ↔ k ∈ W.map (·.1) := by
  unfold leastOf; rw [low_some]; simp
theorem low_mem (k : Spot) : ∀ (W : List Wish) (o : Option Int) (t : Int), W.foldl (low1 k) o = some t → o = some t ∨ (k, t) ∈ W
  | [], o, t, h => .inl h
  | r :: W, o, t, h => by
    rw [List.foldl_cons] at h
    rcases low_mem k W _ t h with z | z
    · unfold low1 at z
      by_cases e : r.1 = k
      · rw [if_pos e] at z
        have here : r.2 = t → (k, t) ∈ r :: W := fun q => by rw [← e, ← q]; exact List.mem_cons_self
        cases o with
        | none => exact .inr (here (Option.some.inj z))
        | some u =>
          have z : minPy u r.2 = t := Option.some.inj z
          unfold minPy at z
          split at z
          · exact .inr (here z)
          · exact .inl (by rw [z])
      · rw [if_neg e] at z; exact .inl z
    · exact .inr (List.mem_cons_of_mem _ z)
theorem least_mem {W : List Wish} {k : Spot} {t : Int} (h : leastOf W k = some t) : (k, t) ∈ W := (low_mem k W none t h).resolve_left fun z => nomatch z
/-- what the law finds: for each spot that is not busy the least moment that is over -/
def fnd1 (B : List Spot) (c : Int) (f : List (Spot × Int)) (r : Wish) : List (Spot × Int) := if r.1 ∉ B ∧ r.2 ≤ c then putS f r.1 (minPy r.2 ((getS f r.1).getD r.2)) else f
def foundOf (W : List Wish) (B : List Spot) (c : Int) : List (Spot × Int) := W.foldl (fnd1 B c) []
def clip (c : Int) : Option Int → Option Int
  | some t => if t ≤ c then some t else none
  | none => none
theorem fnd_step {B : List Spot} {c : Int} {f : List (Spot × Int)} {o : Spot → Option Int} (h : ∀ k, getS f k = if k ∈ B then none else clip c (o k)) (r : Wish) : ∀ k, getS (fnd1 B c f r) k = if k ∈ B then none else clip c (low1 k (o k) r) := fun k => by
  unfold fnd1
  by_cases e : r.1 = k
  · have lo : low1 k (o k) r = some (match o k with | none => r.2 | some u => minPy u r.2) := if_pos e
    rw [lo]
    by_cases hB : k ∈ B
    · rw [if_neg fun z => z.1 (e ▸ hB), h, if_pos hB, if_pos hB]
    · rw [if_neg hB]
      by_cases hc : r.2 ≤ c
      · rw [if_pos ⟨fun z => hB (e ▸ z), hc⟩, e, getS_put, if_pos rfl, h, if_neg hB]
        cases o k with
        | none =>
          show some (minPy r.2 r.2) = if r.2 ≤ c then some r.2 else none
          rw [if_pos hc]; unfold minPy; split <;> rfl
        | some u =>
          show some (minPy r.2 ((if u ≤ c then some u else none).getD r.2)) = if minPy u r.2 ≤ c then some (minPy u r.2) else none
          by_cases hu : u ≤ c
          · rw [if_pos hu]
            show some (minPy r.2 u) = _
            have same : minPy r.2 u = minPy u r.2 ∧ minPy u r.2 ≤ c := by unfold minPy; split <;> split <;> omega
            rw [same.1, if_pos same.2]
          · rw [if_neg hu]
            show some (minPy r.2 r.2) = _
            unfold minPy
            rw [if_neg (by omega), if_pos (show r.2 < u by omega), if_pos hc]
      · rw [if_neg fun z => hc z.2, h, if_neg hB]
        cases o k with
        | none => exact (if_neg hc).symm
        | some u =>
          show (if u ≤ c then some u else none) = if minPy u r.2 ≤ c then some (minPy u r.2) else none
          unfold minPy
          by_cases hu : u ≤ c
          · rw [if_neg (show ¬ r.2 < u by omega)]
          · rw [if_neg hu]
            by_cases z : r.2 < u
            · rw [if_pos z, if_neg hc]
            · rw [if_neg z, if_neg hu]
  · have lo : low1 k (o k) r = o k := if_neg e
    rw [lo]
    split
    · rw [getS_put, if_neg fun z => e z.symm, h]
    · exact h k
theorem found_get (W : List Wish) (B : List Spot) (c : Int) (k : Spot) : getS (foundOf W B c) k = if k ∈ B then none else clip c (leastOf W k) := by
  have : ∀ (W : List Wish) (f : List (Spot × Int)) (o : Spot → Option Int), (∀ k, getS f k = if k ∈ B then none else clip c (o k)) → ∀ k, getS (W.foldl (fnd1 B c) f) k = if k ∈ B then none else clip c (W.foldl (low1 k) (o k)) := fun W => by
    induction W with
    | nil => exact fun f o h => h
    | cons r W more => exact fun f o h => more _ _ (fnd_step h r)
  exact this W [] (fun _ => none) (fun k => by split <;> rfl) k
theorem fnd_once {B : List Spot} {c : Int} {f : List (Spot × Int)} (h : (f.map (·.1)).Nodup) (r : Wish) : ((fnd1 B c f r).map (·.1)).Nodup := by unfold fnd1; split <;> first | exact putS_nodup h | exact h
theorem fnd_len {B : List Spot} {c : Int} {f : List (Spot × Int)} (r : Wish) : (fnd1 B c f r).length ≤ f.length + 1 := by unfold fnd1; split <;> first | exact putS_len _ _ _ | omega
theorem found_snoc (W : List Wish) (r : Wish) (B : List Spot) (c : Int) : foundOf (W ++ [r]) B c = fnd1 B c (foundOf W B c) r := by unfold foundOf; rw [List.foldl_append]; rfl
theorem found_once (W : List Wish) (B : List Spot) (c : Int) : ((foundOf W B c).map (·.1)).Nodup := by
  have : ∀ (W : List Wish) (f : List (Spot × Int)), (f.map (·.1)).Nodup → ((W.foldl (fnd1 B c) f).map (·.1)).Nodup := fun W => by
    induction W with
    | nil => exact fun f h => h
    | cons r W more => exact fun f h => more _ (fnd_once h r)
  exact this W [] .nil
theorem found_len (W : List Wish) (B : List Spot) (c : Int) : (foundOf W B c).length ≤ W.length := by
  have : ∀ (W : List Wish) (f : List (Spot × Int)), (W.foldl (fnd1 B c) f).length ≤ f.length + W.length := fun W => by
    induction W with
    | nil => exact fun f => Nat.le_refl _
    | cons r W more => exact fun f => by have := more (fnd1 B c f r); have := fnd_len (B := B) (c := c) (f := f) r; rw [List.length_cons]; show ((W.foldl (fnd1 B c) (fnd1 B c f r))).length ≤ _; omega
  have := this W []
  simpa [foundOf] using this
/-- what the queue holds and what the law kept -/
structure Fits (s : QS) (W : List Wish) (B : List Spot) : Prop where
  good : Good s
  tak : s.taken.map (·.1) = B
  once : B.Nodup
  in_ : ∀ k ∈ B, getS s.taken k = some (leastOf W k)
  out : ∀ k, (getS s.ents k).map (·.1) = if k ∈ B then none else leastOf W k
theorem put_time (s : QS) (k : Spot) (t : Int) (j : Spot) : (getS (s.put k t).ents j).map (·.1) = if j = k then some (match (getS s.ents k).map (·.1) with | none => t | some u => minPy u t) else (getS s.ents j).map (·.1) := by
  have bump_ : (getS (s.bump k t).ents j).map (·.1) = if j = k then some t else (getS s.ents j).map (·.1) := by
    show (getS (putS s.ents k (t, s.count + 1)) j).map (·.1) = _
    rw [getS_put]
    split <;> rfl
  unfold QS.put
  cases h : getS s.ents k with
  | none => exact bump_
  | some x =>
    show (getS (if t < x.1 then s.bump k t else s).ents j).map (·.1) = if j = k then some (minPy x.1 t) else _
    unfold minPy
    by_cases q : t < x.1
    · rw [if_pos q, if_pos q]; exact bump_
    · rw [if_neg q, if_neg q]
      by_cases z : j = k
      · rw [if_pos z, z, h]; rfl
      · rw [if_neg z]
theorem fits_new (m : Int) : Fits (QS.new m) [] [] := ⟨⟨List.nodup_nil, List.nodup_nil, fun e he => (nomatch he)⟩, rfl, .nil, fun k h => (nomatch h), fun k => rfl⟩
theorem keys_of {s : QS} {W : List Wish} {B : List Spot} (h : Fits s W B) {k : Spot} : k ∈ B ↔ ∃ o, getS s.taken k = some o := by
  rw [← h.tak]
  exact ⟨fun z => getS_some z, fun ⟨o, e⟩ => List.mem_map.mpr ⟨_, getS_mem e, rfl⟩⟩
theorem fits_add {s : QS} {W : List Wish} {B : List Spot} (h : Fits s W B) (k : Spot) (t : Int) : Fits (s.add k t) (W ++ [(k, t)]) B := by
  obtain ⟨g, _, _, _, _⟩ := add_good h.good k t
  by_cases hk : k ∈ B
  · have e := h.in_ k hk
    have at_ : s.add k t = { s with taken := putS s.taken k (some (match leastOf W k with | none => t | some u => minPy u t)) } := by
      unfold QS.add
      rw [e]
      cases leastOf W k <;> rfl
    rw [at_] at g ⊢
    have mem_ : k ∈ s.taken.map (·.1) := h.tak ▸ hk
    refine ⟨g, ?_, h.once, fun j hj => ?_, fun j => ?_⟩
    · show (putS s.taken k _).map (·.1) = B
      rw [putS_keys, if_pos mem_]; exact h.tak
    · show getS (putS s.taken k _) j = _
      rw [getS_put, least_snoc]
      unfold low1
      by_cases z : j = k
      · rw [if_pos z, if_pos z.symm, z]
      · rw [if_neg z, if_neg fun y => z y.symm]; exact h.in_ j hj
    · show (getS s.ents j).map (·.1) = _
      rw [h.out, least_snoc]
      by_cases hj : j ∈ B
      · rw [if_pos hj, if_pos hj]
      · rw [if_neg hj, if_neg hj]
        exact (if_neg (show ¬ k = j from fun z => hj (z ▸ hk))).symm
  · have e : getS s.taken k = none := by
      cases q : getS s.taken k with
      | none => rfl
      | some o => exact absurd ((keys_of h).mpr ⟨o, q⟩) hk
    have at_ : s.add k t = s.put k t := by unfold QS.add; rw [e]
    rw [at_] at g ⊢
    obtain ⟨e1, _, _⟩ := put_rest s k t
    refine ⟨g, by rw [e1]; exact h.tak, h.once, fun j hj => ?_, fun j => ?_⟩
    · rw [e1, h.in_ j hj, least_snoc]
      have n : ¬ k = j := fun z => hk (z ▸ hj)
      unfold low1
      rw [if_neg n]
    · rw [put_time, least_snoc]
      unfold low1
      by_cases z : j = k
      · subst z
        rw [if_pos rfl, if_neg hk, if_pos rfl, h.out, if_neg hk]
      · rw [if_neg z, if_neg (show ¬ k = j from fun y => z y.symm)]; exact h.out j
theorem drop_keys {α : Type} (es : List (Spot × α)) (k : Spot) (nd : (es.map (·.1)).Nodup) : (dropS es k).map (·.1) = (es.map (·.1)).erase k := by
  rw [nd.erase_eq_filter]
  unfold dropS
  rw [map_filter]
  exact congrArg (List.map _) (List.filter_congr fun e _ => by by_cases z : e.1 = k <;> simp [z])
theorem fits_done {s : QS} {W : List Wish} {B : List Spot} (h : Fits s W B) {k : Spot} (hk : k ∈ B) : Fits (s.done k) W (B.erase k) := by
  have e := h.in_ k hk
  obtain ⟨g, _, tk, _, _⟩ := done_good h.good e
  have mem_ : ∀ j, j ∈ B.erase k ↔ j ≠ k ∧ j ∈ B := fun j => h.once.mem_erase_iff
  refine ⟨g, by rw [tk, drop_keys _ _ (h.tak ▸ h.once), h.tak], h.once.erase k, fun j hj => ?_, fun j => ?_⟩
  · obtain ⟨a, b⟩ := (mem_ j).mp hj
    rw [tk, getS_drop, if_neg a]; exact h.in_ j b
  · have base : (getS s.ents j).map (·.1) = if j ∈ B then none else leastOf W j := h.out j
    have times : (getS (s.done k).ents j).map (·.1) = if j = k then leastOf W k else (getS s.ents j).map (·.1) := by
      have nk : getS s.ents k = none := by
        have := h.out k
        rw [if_pos hk] at this
        exact Option.map_eq_none_iff.mp this
      unfold QS.done
      rw [e]
      cases q : leastOf W k with
      | none =>
        show (getS s.ents j).map (·.1) = _
        by_cases z : j = k
        · rw [if_pos z, z, nk]; rfl
        · rw [if_neg z]
      | some t =>
        show (getS (QS.put { s with taken := dropS s.taken k } k t).ents j).map (·.1) = _
        rw [put_time]
        show (if j = k then some (match (getS s.ents k).map (·.1) with | none => t | some u => minPy u t) else (getS s.ents j).map (·.1)) = _
        rw [nk]; rfl
    rw [times, base]
    by_cases z : j = k
    · rw [if_pos z, if_neg fun y => ((mem_ j).mp y).1 z, z]
    · rw [if_neg z]
      by_cases y : j ∈ B
      · rw [if_pos y, if_pos ((mem_ j).mpr ⟨z, y⟩)]
      · rw [if_neg y, if_neg fun x => y ((mem_ j).mp x).2]
theorem fits_slow {s : QS} {W : List Wish} {B : List Spot} (h : Fits s W B) (k : Spot) : Fits (s.slow k) W B := ⟨⟨h.good.once, h.good.cnt, h.good.le⟩, h.tak, h.once, h.in_, h.out⟩
theorem fits_retry {s : QS} {W : List Wish} {B : List Spot} (h : Fits s W B) {k : Spot} (hk : k ∈ B) (c : Int) : Fits (s.retry k c) (W ++ [(k, c + s.delay k)]) (B.erase k) := fits_done (fits_slow (fits_add h k _) k) hk
/-- nothing is due -/
theorem none_due {s : QS} {W : List Wish} {B : List Spot} (h : Fits s W B) {c : Int} (e : s.first c = none) : foundOf W B c = [] := by
  have due_ : s.due c = [] := by
    unfold QS.first at e
    cases q : s.due c with
    | nil => rfl
    | cons x xs => rw [q] at e; cases e
  cases q : foundOf W B c with
  | nil => rfl
  | cons f fs =>
    exfalso
    have g : getS (foundOf W B c) f.1 = some f.2 := getS_of (found_once W B c) (by rw [q]; exact List.mem_cons_self)
    rw [found_get] at g
    split at g
    · cases g
    · rename_i nb
      have o := h.out f.1
      rw [if_neg nb] at o
      cases z : leastOf W f.1 with
      | none => rw [z] at g; cases g
      | some t =>
        rw [z] at g o
        have g : (if t ≤ c then some t else none) = some f.2 := g
        split at g
        · rename_i le
          obtain ⟨x, ex, rfl⟩ := Option.map_eq_some_iff.mp o
          have m : (x, f.1) ∈ s.due c := dueL_mem.mpr ⟨getS_mem ex, le⟩
          rw [due_] at m; cases m
        · cases g
/-- what comes out -/
theorem first_due {s : QS} {W : List Wish} {B : List Spot} (h : Fits s W B) {c : Int} {k : Spot} (e : s.first c = some k) : k ∉ B ∧ ∃ t, leastOf W k = some t ∧ t ≤ c ∧ getS (foundOf W B c) k = some t ∧ (∀ x xs, (foundOf W B c).map (·.2) = x :: xs → minOf x xs = t) ∧ foundOf W B c ≠ [] := by
  unfold QS.first at e
  cases q : s.due c with
  | nil => rw [q] at e; cases e
  | cons x xs =>
    rw [q] at e
    obtain rfl := Option.some.inj e
    obtain ⟨m, l⟩ := minOf_least xs x
    rw [← q] at m l
    generalize minOf x xs = r at m l
    obtain ⟨m1, m2⟩ := dueL_mem.mp m
    have g := getS_of h.good.once m1
    have o := h.out r.2
    rw [g] at o
    have nb : r.2 ∉ B := fun z => by rw [if_pos z] at o; cases o
    rw [if_neg nb] at o
    have o : leastOf W r.2 = some r.1.1 := o.symm
    have gf : getS (foundOf W B c) r.2 = some r.1.1 := by
      rw [found_get, if_neg nb, o]; exact if_pos m2
    refine ⟨nb, r.1.1, o, m2, gf, fun y ys ey => ?_, fun z => by rw [z] at gf; cases gf⟩
    obtain ⟨a, b⟩ := minOf_least ys y
    rw [← ey] at a b
    have here : r.1.1 ∈ (foundOf W B c).map (·.2) := List.mem_map.mpr ⟨_, getS_mem gf, rfl⟩
    have le1 := b _ here
    obtain ⟨f, hf, ef⟩ := List.mem_map.mp a
    have gf2 := getS_of (found_once W B c) hf
    rw [found_get] at gf2
    have le2 : leD r.1.1 (minOf y ys) = true ∧ True := by
      split at gf2
      · cases gf2
      · rename_i nb2
        cases z : leastOf W f.1 with
        | none => rw [z] at gf2; cases gf2
        | some t =>
          rw [z] at gf2
          have gf2 : (if t ≤ c then some t else none) = some f.2 := gf2
          split at gf2
          · rename_i le
            obtain rfl : t = f.2 := Option.some.inj gf2
            have o2 := h.out f.1
            rw [if_neg nb2, z] at o2
            obtain ⟨w, ew, e1⟩ := Option.map_eq_some_iff.mp o2
            have lw := l (w, f.1) (dueL_mem.mpr ⟨getS_mem ew, by rw [e1]; exact le⟩)
            rw [← ef, ← e1]
            refine ⟨?_, True.intro⟩
            have lw : (!(if w = r.1 then DatumOrd.lt f.1 r.2 else DatumOrd.lt w r.1)) = true := lw
            show (!decide (w.1 < r.1.1)) = true
            rw [Bool.not_eq_true', decide_eq_false_iff_not]
            by_cases same : w = r.1
            · rw [same]; omega
            · rw [if_neg same, lt_pair, Bool.not_eq_true'] at lw
              split at lw
              · omega
              · rw [decide_eq_false_iff_not] at lw; exact lw
          · cases gf2
    have le1 : (!decide (r.1.1 < minOf y ys)) = true := le1
    have le2 : (!decide (minOf y ys < r.1.1)) = true := le2.1
    rw [Bool.not_eq_true', decide_eq_false_iff_not] at le1 le2
    omega
theorem fits_out {s : QS} {W : List Wish} {B : List Spot} (h : Fits s W B) {k : Spot} (hk : k ∉ B) : Fits (s.out k) (W.filter fun r => decide (¬ r.1 = k)) (B ++ [k]) := by
  have nt : k ∉ s.taken.map (·.1) := h.tak ▸ hk
  refine ⟨h.good.out k, ?_, ?_, fun j hj => ?_, fun j => ?_⟩
  · show (putS s.taken k none).map (·.1) = _
    rw [putS_keys, if_neg nt, h.tak]
  · rw [List.nodup_append]
    exact ⟨h.once, List.nodup_cons.mpr ⟨List.not_mem_nil, List.nodup_nil⟩, fun x hx y hy => by rw [List.mem_singleton.mp hy]; exact fun z => hk (z ▸ hx)⟩
  · show getS (putS s.taken k none) j = _
    rw [getS_put, least_off]
    by_cases z : j = k
    · rw [if_pos z, if_pos z]
    · rw [if_neg z, if_neg z]
      rcases List.mem_append.mp hj with y | y
      · exact h.in_ j y
      · exact absurd (List.mem_singleton.mp y) z
  · show (getS (dropS s.ents k) j).map (·.1) = _
    rw [getS_drop, least_off]
    by_cases z : j = k
    · rw [if_pos z, if_pos z]; split <;> rfl
    · rw [if_neg z, if_neg z, h.out]
      by_cases y : j ∈ B
      · rw [if_pos y, if_pos (List.mem_append_left _ y)]
      · rw [if_neg y, if_neg fun x => (List.mem_append.mp x).elim y fun x => z (List.mem_singleton.mp x)]
end

/-! ### how many rows a queue may have (as in k43/m4) -/
structure Bd (s : QS) (n : Nat) : Prop where
  e : s.ents.length ≤ n
  t : s.taken.length ≤ n
  d : s.delays.length ≤ n
theorem Bd.put {s : QS} {n : Nat} (h : Bd s n) (k : Spot) (t : Int) : Bd (s.put k t) (n + 1) := by
  have a : (s.put k t).ents.length ≤ n + 1 := by
    have q := putS_len s.ents k (t, s.count + 1)
    have := h.e
    unfold QS.put
    rcases getS s.ents k with _ | x
    · show (putS s.ents k _).length ≤ _; omega
    · show (if t < x.1 then s.bump k t else s).ents.length ≤ _
      split
      · show (putS s.ents k _).length ≤ _; omega
      · omega
  obtain ⟨b, c, _⟩ := put_rest s k t
  exact ⟨a, by rw [b]; have := h.t; omega, by rw [c]; have := h.d; omega⟩
theorem Bd.add {s : QS} {n : Nat} (h : Bd s n) (k : Spot) (t : Int) : Bd (s.add k t) (n + 1) := by
  unfold QS.add
  rcases getS s.taken k with _ | _ | u
  · exact h.put k t
  · exact ⟨by have := h.e; show s.ents.length ≤ _; omega, by have := putS_len s.taken k (some t); have := h.t; show (putS s.taken k _).length ≤ _; omega, by have := h.d; show s.delays.length ≤ _; omega⟩
  · exact ⟨by have := h.e; show s.ents.length ≤ _; omega, by have := putS_len s.taken k (some (minPy u t)); have := h.t; show (putS s.taken k _).length ≤ _; omega, by have := h.d; show s.delays.length ≤ _; omega⟩
theorem Bd.out {s : QS} {n : Nat} (h : Bd s n) (k : Spot) : Bd (s.out k) (n + 1) :=
  ⟨by have := dropS_len s.ents k; have := h.e; show (dropS s.ents k).length ≤ _; omega, by have := putS_len s.taken k none; have := h.t; show (putS s.taken k none).length ≤ _; omega, by have := h.d; show s.delays.length ≤ _; omega⟩
theorem Bd.done {s : QS} {n : Nat} (h : Bd s n) (k : Spot) : Bd (s.done k) (n + 1) := by
  have base : Bd { s with taken := dropS s.taken k } n := ⟨h.e, by have := dropS_len s.taken k; have := h.t; show (dropS s.taken k).length ≤ _; omega, h.d⟩
  unfold QS.done
  rcases getS s.taken k with _ | _ | t
  · exact ⟨Nat.le_succ_of_le base.e, Nat.le_succ_of_le base.t, Nat.le_succ_of_le base.d⟩
  · exact ⟨Nat.le_succ_of_le base.e, Nat.le_succ_of_le base.t, Nat.le_succ_of_le base.d⟩
  · exact base.put k t
theorem Bd.retry {s : QS} {n : Nat} (h : Bd s n) (k : Spot) (c : Int) : Bd (s.retry k c) (n + 3) := by
  have a := h.add k (c + s.delay k)
  have b : Bd ((s.add k (c + s.delay k)).slow k) (n + 2) := ⟨by have := a.e; show (s.add k _).ents.length ≤ _; omega, by have := a.t; show (s.add k _).taken.length ≤ _; omega, by
    have q := putS_len (s.add k (c + s.delay k)).delays k (minPy (2 * (s.add k (c + s.delay k)).delay k) (s.add k (c + s.delay k)).longest)
    have := a.d
    show (putS _ k _).length ≤ _
    omega⟩
  exact b.done k
theorem Bd.mono {s : QS} {n m : Nat} (h : Bd s n) (l : n ≤ m) : Bd s m := ⟨Nat.le_trans h.e l, Nat.le_trans h.t l, Nat.le_trans h.d l⟩

/-! ### one order of spots; what is worked off -/
section
open PySem.W
theorem str_tri {a b : Str} (h : ¬ a.cps.toList < b.cps.toList) (g : ¬ b.cps.toList < a.cps.toList) : a = b := by
  have e : a.cps.toList = b.cps.toList := List.le_antisymm (List.not_lt.mp g) (List.not_lt.mp h)
  obtain ⟨x⟩ := a
  obtain ⟨y⟩ := b
  exact congrArg Str.mk (Array.toList_inj.mp e)
theorem strs_tri : ∀ {xs ys : List Str}, listLt xs ys = false → listLt ys xs = false → xs = ys
  | [], [], _, _ => rfl
  | [], _ :: _, h, _ => nomatch h
  | _ :: _, [], _, g => nomatch g
  | x :: xs, y :: ys, h, g => by
    have h : (if x = y then listLt xs ys else decide (x.cps.toList < y.cps.toList)) = false := h
    have g : (if y = x then listLt ys xs else decide (y.cps.toList < x.cps.toList)) = false := g
    by_cases e : x = y
    · subst e
      rw [if_pos rfl] at h g
      rw [strs_tri h g]
    · rw [if_neg e, decide_eq_false_iff_not] at h
      rw [if_neg fun z => e z.symm, decide_eq_false_iff_not] at g
      exact absurd (str_tri h g) e
theorem spot_anti {a b : Spot} (h : leD a b = true) (g : leD b a = true) : a = b := by
  have h : (!listLt b.items a.items) = true := h
  have g : (!listLt a.items b.items) = true := g
  rw [Bool.not_eq_true'] at h g
  obtain ⟨x⟩ := a
  obtain ⟨y⟩ := b
  exact congrArg W.Tup.mk (strs_tri g h)
theorem spots_sorted {xs ys : List Spot} (p : xs.Perm ys) : srtD xs = srtD ys := srtD_one (fun _ _ _ _ h g => spot_anti h g) ((srtD_perm xs).trans p) (srtD_sorted xs)
/-- the spots that wait are those wished for -/
theorem waits {s : QS} {W : List Wish} (h : Fits s W []) {ks : List Spot} (once : ks.Nodup) (mem_ : ∀ k, k ∈ ks ↔ k ∈ W.map (·.1)) : (s.ents.map (·.1)).Perm ks := by
  refine (List.perm_ext_iff_of_nodup h.good.once once).mpr fun k => ?_
  rw [mem_, ← least_some]
  have o := h.out k
  rw [if_neg List.not_mem_nil] at o
  rw [← o]
  constructor
  · intro z
    obtain ⟨x, ex⟩ := getS_some z
    rw [ex]; rfl
  · intro z
    rw [Option.isSome_map] at z
    cases q : getS s.ents k with
    | none => rw [q] at z; cases z
    | some x => exact List.mem_map.mpr ⟨_, getS_mem q, rfl⟩
theorem waiting_spots (s : QS) : (s.waiting.map (·.2)).Perm (s.ents.map (·.1)) := by
  have := (waiting_perm s).map (·.2)
  unfold rowsOf at this
  rwa [List.map_map] at this
/-- the queue while it is worked off: B is out, the rest of ks is in it -/
structure Works (s : QS) (ks : List Spot) (B : List Spot) (C : Int) : Prop where
  fits : ∃ W, Fits s W B ∧ ∀ r ∈ W, r.2 ≤ C
  all : (B ++ s.ents.map (·.1)).Perm ks
theorem ent_due {s : QS} {ks B : List Spot} {C : Int} (w : Works s ks B C) : ∀ e ∈ s.ents, e.2.1 ≤ C := fun e he => by
  obtain ⟨W, f, low⟩ := w.fits
  have g := getS_of f.good.once he
  have o := f.out e.1
  rw [g] at o
  split at o
  · cases o
  · exact low _ (least_mem (t := e.2.1) o.symm)
theorem works_step {s : QS} {ks B : List Spot} {C : Int} (w : Works s ks B C) (lt : B.length < ks.length) : ∃ k, s.first C = some k ∧ Works (s.out k) ks (B ++ [k]) C := by
  have len := w.all.length_eq
  rw [List.length_append, List.length_map] at len
  have low := ent_due w
  obtain ⟨W, f, lowW⟩ := w.fits
  have some_ : ∃ k, s.first C = some k := by
    unfold QS.first
    cases q : s.due C with
    | cons x xs => exact ⟨_, rfl⟩
    | nil =>
      exfalso
      cases e : s.ents with
      | nil => rw [e] at len; simp at len; omega
      | cons x xs =>
        have m : (x.2, x.1) ∈ s.due C := dueL_mem.mpr ⟨by rw [e]; exact List.mem_cons_self, low x (by rw [e]; exact List.mem_cons_self)⟩
        rw [q] at m; cases m
  obtain ⟨k, ek⟩ := some_
  refine ⟨k, ek, ⟨_, fits_out f (first_due f ek).1, fun r hr => lowW r (List.mem_filter.mp hr).1⟩, ?_⟩
  obtain ⟨nb, t, lt_, _⟩ := first_due f ek
  have o := f.out k
  rw [if_neg nb, lt_] at o
  obtain ⟨x, ex, _⟩ := Option.map_eq_some_iff.mp o
  have mem_ : k ∈ s.ents.map (·.1) := List.mem_map.mpr ⟨_, getS_mem ex, rfl⟩
  refine List.Perm.trans ?_ w.all
  show (B ++ [k] ++ (dropS s.ents k).map (·.1)).Perm _
  rw [drop_keys _ _ f.good.once, List.append_assoc]
  exact (List.perm_cons_erase mem_).symm.append_left B
theorem works_end {s : QS} {ks B : List Spot} {C : Int} (w : Works s ks B C) (eq : B.length = ks.length) : s.first C = none ∧ B.Perm ks := by
  have len := w.all.length_eq
  rw [List.length_append, List.length_map] at len
  have e : s.ents = [] := List.length_eq_zero_iff.mp (by omega)
  refine ⟨?_, by have := w.all; rw [e] at this; simpa using this⟩
  unfold QS.first QS.due
  rw [e]; rfl
theorem works_keys {s : QS} {ks B : List Spot} {C : Int} (w : Works s ks B C) : s.working = srtD B := by
  obtain ⟨W, f, _⟩ := w.fits
  unfold QS.working
  rw [f.tak]
/-- delays -/
structure Dly (s : QS) : Prop where
  long0 : 0 ≤ s.longest
  long : s.longest ≤ 1000
  del0 : ∀ e ∈ s.delays, 0 ≤ e.2
  del : ∀ e ∈ s.delays, e.2 ≤ 1000
theorem Dly.of {s s' : QS} (h : Dly s) (a : s'.delays = s.delays) (b : s'.longest = s.longest) : Dly s' := ⟨b ▸ h.long0, b ▸ h.long, a ▸ h.del0, a ▸ h.del⟩
theorem Dly.nat {s : QS} (h : Dly s) (k : Spot) : 0 ≤ s.delay k ∧ s.delay k ≤ 1000 := by
  unfold QS.delay
  cases e : getS s.delays k with
  | none => exact ⟨by decide, by decide⟩
  | some x => exact ⟨h.del0 _ (getS_mem e), h.del _ (getS_mem e)⟩
theorem all_put {α : Type} {es : List (Spot × α)} {k : Spot} {a : α} {P : α → Prop} (h : ∀ e ∈ es, P e.2) (ha : P a) : ∀ e ∈ putS es k a, P e.2 := fun e he => by
  unfold putS at he
  split at he
  · obtain ⟨f, hf, rfl⟩ := List.mem_map.mp he
    by_cases z : f.1 = k
    · rw [if_pos z]; exact ha
    · rw [if_neg z]; exact h f hf
  · rcases List.mem_append.mp he with y | y
    · exact h e y
    · rw [List.mem_singleton.mp y]; exact ha
theorem Dly.slow {s : QS} (h : Dly s) (k : Spot) : Dly (s.slow k) := by
  have := h.nat k
  have := h.long
  have := h.long0
  refine ⟨h.long0, h.long, all_put (P := fun x : Int => 0 ≤ x) h.del0 ?_, all_put (P := fun x : Int => x ≤ 1000) h.del ?_⟩ <;> (unfold minPy; split <;> omega)
theorem Dly.add {s : QS} (h : Dly s) (k : Spot) (t : Int) : Dly (s.add k t) := by
  unfold QS.add
  rcases getS s.taken k with _ | _ | u
  · exact h.of (put_rest s k t).2.1 (put_rest s k t).2.2
  · exact h.of rfl rfl
  · exact h.of rfl rfl
theorem Dly.done {s : QS} (h : Dly s) (k : Spot) : Dly (s.done k) := by
  unfold QS.done
  rcases getS s.taken k with _ | _ | u
  · exact h.of rfl rfl
  · exact h.of rfl rfl
  · exact h.of (put_rest { s with taken := dropS s.taken k } k u).2.1 (put_rest { s with taken := dropS s.taken k } k u).2.2
theorem Dly.retry {s : QS} (h : Dly s) (k : Spot) (c : Int) : Dly (s.retry k c) := ((h.add k _).slow k).done k
theorem Dly.take {s : QS} (h : Dly s) (k : Spot) : Dly (s.out k) := h.of rfl rfl
theorem dly_new {m : Int} (a : 1 ≤ m) (b : m ≤ 1000) : Dly (QS.new m) := ⟨by show 0 ≤ m; omega, b, fun e he => (nomatch he), fun e he => (nomatch he)⟩
end

/-! ### the law's own table: wishes and what is busy -/
section
open PySem.W
def RowWish (H : Hp) (p : Addr) (r : Wish) : Prop := ∃ q, H p = some (.tup [.ref q, .int r.2]) ∧ SpAt H q r.1
theorem rowWish_keep : TupRel RowWish := fun k ⟨q, a, b⟩ => ⟨q, k _ _ a, k _ _ b⟩
theorem spAt_keep : TupRel SpAt := fun k h => k _ _ h
def WishAt (H : Hp) (L : Addr) (W : List Wish) : Prop := ∃ ps : List Addr, H L = some (.lst (ps.map V.ref)) ∧ Paired (RowWish H) ps W
theorem WishAt.same {H H' : Hp} {L : Addr} {W : List Wish} (h : WishAt H L W) (s : Same H H') : WishAt H' L W := have ⟨ps, a, b⟩ := h; ⟨ps, s _ _ a, Paired.mono (fun _ _ r => rowWish_keep (fun b ys hb => s _ _ hb) r) b⟩
theorem SpotsAt.same {H H' : Hp} {L : Addr} {ks : List Spot} (h : SpotsAt H L ks) (s : Same H H') : SpotsAt H' L ks := have ⟨ps, a, b⟩ := h; ⟨ps, s _ _ a, Paired.mono (fun _ _ r => r.same s) b⟩
theorem spots_dpA {K : PySem.W.Frag} {H : Hp} {qs : List Addr} {ks : List Spot} (h : Paired (SpAt H) qs ks) : DpA K H (qs.map V.ref) ks := by
  unfold DpA
  induction h with
  | nil => exact .nil
  | cons r _ more => exact .cons r.dp more
theorem SpotsAt.dp {K : PySem.W.Frag} {H : Hp} {L : Addr} {ks : List Spot} (h : SpotsAt H L ks) : Dp K H (.ref L) (Datum.toD ks) := have ⟨_, a, b⟩ := h; .lst (SqL.of a) (spots_dpA b)
structure MB where
  M : Addr
  Wl : Addr
  Bl : Addr
def mK (B : MB) : List (Key × V) := [(.inr "wishes", .ref B.Wl), (.inr "busy", .ref B.Bl)]
theorem vk_ne {a b : Str} {v : V} {r : List (Key × V)} (h : a ≠ b) : valV ((.inr a, v) :: r) (.inr b : Key) = valV r (.inr b) := valV_neg (p := ((.inr a : Key), v)) fun z => h (Sum.inr.inj z)
theorem vk_eq {a : Str} {v : V} {r : List (Key × V)} : valV ((.inr a, v) :: r) (.inr a : Key) = some v := valV_pos (p := ((.inr a : Key), v)) rfl
theorem mk_nm : Str.ofString "wishes" ≠ "busy" := by decide +kernel
theorem mK_w (B : MB) : valV (mK B) (.inr (Str.ofString "wishes")) = some (.ref B.Wl) := vk_eq
theorem mK_b (B : MB) : valV (mK B) (.inr (Str.ofString "busy")) = some (.ref B.Bl) := (vk_ne mk_nm).trans vk_eq
theorem mK_put (B : MB) (L : Addr) : putK (mK B) (.inr (Str.ofString "wishes")) (.ref L) = mK { B with Wl := L } := by
  unfold putK
  rw [valV_any, mK_w, if_pos (show (some (V.ref B.Wl)).isSome = true from rfl)]
  unfold mK
  simp only [List.map_cons, List.map_nil]
  rw [if_pos trivial, if_neg fun z => mk_nm (Sum.inr.inj z).symm]
structure MAt (H : Hp) (B : MB) (W : List Wish) (C : List Spot) : Prop where
  ob : H B.M = some (.dK (mK B))
  w : WishAt H B.Wl W
  b : SpotsAt H B.Bl C
  ne : B.Wl ≠ B.Bl
/-- all but the table and its lists is as it was -/
def OffM (B : MB) (H H' : Hp) : Prop := ∀ b o, H b = some o → b ≠ B.M → b ≠ B.Wl → b ≠ B.Bl → H' b = some o
theorem OffM.of {B : MB} {H H1 : Hp} (x : Same H H1) : OffM B H H1 := fun b o e _ _ _ => x b o e
theorem OffM.refl (B : MB) (H : Hp) : OffM B H H := fun _ _ e _ _ _ => e
theorem OffM.trans {B : MB} {H H1 H2 : Hp} (x : OffM B H H1) (y : OffM B H1 H2) : OffM B H H2 := fun b o e a c d => y b o (x b o e a c d) a c d
section
variable {H H' : Hp} {B : MB} {W : List Wish} {C : List Spot}
theorem MAt.gW (h : MAt H B W C) : DGet H B.M (.str "wishes") (some (.ref B.Wl)) := by
  have := DGet.k (k := .inr (Str.ofString "wishes")) h.ob; rwa [mK_w] at this
theorem MAt.gB (h : MAt H B W C) : DGet H B.M (.str "busy") (some (.ref B.Bl)) := by
  have := DGet.k (k := .inr (Str.ofString "busy")) h.ob; rwa [mK_b] at this
theorem MAt.same (h : MAt H B W C) (s : Same H H') : MAt H' B W C := ⟨s _ _ h.ob, h.w.same s, h.b.same s, h.ne⟩
/-- tuples, dicts with tuple keys and instances stand -/
def tupQ : HO → Bool
  | .tup _ => true
  | .dT _ => true
  | .ins .. => true
  | _ => false
theorem MAt.off (h : MAt H B W C) (x : OffM B H H') {b : Addr} {o : HO} (at_ : H b = some o) (p : tupQ o = true) : H' b = some o := by
  obtain ⟨ps, e1, _⟩ := h.w
  obtain ⟨qs, e2, _⟩ := h.b
  refine x b o at_ ?_ ?_ ?_
  · exact ne_of at_ h.ob fun z => by rw [z] at p; cases p
  · exact ne_of at_ e1 fun z => by rw [z] at p; cases p
  · exact ne_of at_ e2 fun z => by rw [z] at p; cases p
theorem QAt.kinds {K : PySem.W.Frag} {A : QA} {s : QS} (h : QAt K H A s) (k : ∀ b o, H b = some o → tupQ o = true → H' b = some o) : QAt K H' A s := by
  obtain ⟨ob, ⟨k1, e1, r1⟩, ⟨k2, e2, r2⟩, ⟨k3, e3, r3⟩, a, b, c⟩ := h
  exact ⟨k _ _ ob rfl, ⟨k1, k _ _ e1 rfl, r1.mono fun v x ⟨p, ev, hp⟩ => ⟨p, ev, k _ _ hp rfl⟩⟩, ⟨k2, k _ _ e2 rfl, r2⟩, ⟨k3, k _ _ e3 rfl, r3⟩, a, b, c⟩
theorem QAt.offM {K : PySem.W.Frag} {A : QA} {s : QS} (h : QAt K H A s) (m : MAt H B W C) (x : OffM B H H') : QAt K H' A s := h.kinds fun _ _ at_ p => m.off x at_ p
theorem MAt.offQ {K : PySem.W.Frag} {A : QA} {s : QS} (m : MAt H B W C) (h : QAt K H A s) (x : Off A H H') : MAt H' B W C := by
  obtain ⟨ob, ⟨ps, e1, r1⟩, ⟨qs, e2, r2⟩, n⟩ := m
  exact ⟨h.off x ob rfl, ⟨ps, h.off x e1 rfl, Paired.mono (fun _ _ r => rowWish_keep (fun b ys hb => h.off x hb rfl) r) r1⟩, ⟨qs, h.off x e2 rfl, Paired.mono (fun _ _ r => h.sp x r) r2⟩, n⟩
theorem MAt.setW (h : MAt H B W C) {ps : List Addr} {W2 : List Wish} (r : Paired (RowWish H) ps W2) : MAt (upd H B.Wl (.lst (ps.map V.ref))) B W2 C ∧ OffM B H (upd H B.Wl (.lst (ps.map V.ref))) := by
  obtain ⟨ob, ⟨ps0, e1, _⟩, ⟨qs, e2, r2⟩, n⟩ := h
  have tup : ∀ b ys, H b = some (.tup ys) → upd H B.Wl (.lst (ps.map V.ref)) b = some (.tup ys) := fun b ys hb => (upd_ne (ne_of hb e1 fun z => nomatch z)).trans hb
  exact ⟨⟨(upd_ne (ne_of ob e1 fun z => nomatch z)).trans ob, ⟨ps, upd_same, Paired.mono (fun _ _ r => rowWish_keep tup r) r⟩, ⟨qs, (upd_ne n.symm).trans e2, Paired.mono (fun _ _ r => spAt_keep tup r) r2⟩, n⟩, fun b o hb a c d => (upd_ne c).trans hb⟩
theorem MAt.setB (h : MAt H B W C) {qs : List Addr} {C2 : List Spot} (r : Paired (SpAt H) qs C2) : MAt (upd H B.Bl (.lst (qs.map V.ref))) B W C2 ∧ OffM B H (upd H B.Bl (.lst (qs.map V.ref))) := by
  obtain ⟨ob, ⟨ps, e1, r1⟩, ⟨qs0, e2, _⟩, n⟩ := h
  have tup : ∀ b ys, H b = some (.tup ys) → upd H B.Bl (.lst (qs.map V.ref)) b = some (.tup ys) := fun b ys hb => (upd_ne (ne_of hb e2 fun z => nomatch z)).trans hb
  exact ⟨⟨(upd_ne (ne_of ob e2 fun z => nomatch z)).trans ob, ⟨ps, (upd_ne n).trans e1, Paired.mono (fun _ _ r => rowWish_keep tup r) r1⟩, ⟨qs, upd_same, Paired.mono (fun _ _ r => spAt_keep tup r) r⟩, n⟩, fun b o hb a c d => (upd_ne d).trans hb⟩
/-- a new list of wishes -/
theorem MAt.newW (h : MAt H B W C) {L : Addr} {W2 : List Wish} (w : WishAt H L W2) (n : L ≠ B.Bl) : MAt (upd H B.M (.dK (mK { B with Wl := L }))) { B with Wl := L } W2 C ∧ OffM B H (upd H B.M (.dK (mK { B with Wl := L }))) := by
  obtain ⟨ob, _, ⟨qs, e2, r2⟩, _⟩ := h
  obtain ⟨ps, e1, r1⟩ := w
  have tup : ∀ b ys, H b = some (.tup ys) → upd H B.M (.dK (mK { B with Wl := L })) b = some (.tup ys) := fun b ys hb => (upd_ne (ne_of hb ob fun z => nomatch z)).trans hb
  exact ⟨⟨upd_same, ⟨ps, (upd_ne (ne_of e1 ob fun z => nomatch z)).trans e1, Paired.mono (fun _ _ r => rowWish_keep tup r) r1⟩, ⟨qs, (upd_ne (ne_of e2 ob fun z => nomatch z)).trans e2, Paired.mono (fun _ _ r => spAt_keep tup r) r2⟩, n⟩, fun b o hb a c d => (upd_ne a).trans hb⟩
end
/-- a dict of moments by spots -/
abbrev MomAt (H : Hp) (d : Addr) (es : List (Spot × Int)) : Prop := TabAt H d (fun v i => v = .int i) es
/-- all but the object at d is as it was -/
def OffD (d : Addr) (H H' : Hp) : Prop := ∀ b o, H b = some o → b ≠ d → H' b = some o
theorem OffD.refl (d : Addr) (H : Hp) : OffD d H H := fun _ _ e _ => e
def sp__law_open (K : PySem.W.Frag) : Sp := fun vs H Q _ => ∃ (Wl Bl : Addr) (W : List Wish) (C : List Spot) (c : Int), vs = [.ref Wl, .ref Bl, .int c] ∧ WishAt H Wl W ∧ SpotsAt H Bl C ∧ W.length < 50000 ∧
  ∀ (F : Addr) (H' : Hp), H F = none → Same H H' → MomAt H' F (foundOf W C c) → Q (.ref F) H'
theorem ok__law_open {P : Program} {w : World} {K : PySem.W.Frag} {mg : Str → Option Value} {base : Heap} {fd : FuncData} (T : Txt K mg w) (F : FnP K "_law_open" s__law_open [] fd) : FnOk P w K mg base CX0 1 (He.ga K "_law_open") fd ps__law_open (sp__law_open K) := by
  refine F.ok sc__law_open (fun vs H Q E h => ?len) (fun cdv A outer s H vs Q E hr h => ?body)
  case len => obtain ⟨Wl, Bl, W, C, c, rfl, hW, hC, few, k⟩ := h; rfl
  case body =>
  obtain ⟨Wl, Bl, W, C, c, rfl, hW, hC, few, k⟩ := h
  have hu := hu_of hr
  refine ⟨_, PSs.nox (pss_cons (ps_set (i := 3) sc__law_open.nd rfl (Or.inl rfl) pe_dnewT)
    (pss_cons (ps_for PassesOwn.never rfl (pi_list (pv 0)) (pg_tup rfl (pgs_cons (pg_name (i := 4) sc__law_open.nd rfl (Or.inl rfl)) (pgs_cons (pg_name (i := 5) sc__law_open.nd rfl (Or.inl rfl)) pgs_nil)))
      (pss_one (ps_if (PW.pt (pw_and (pt_cmpR (show OpR _ (compareOp .NotIn) (rInX K not) from op_notInX hr.units) (pv 4) (pv 1) (by rfl)) (pw_and1 (pt_cmpR op_le (pv 5) (pv 2) (nomark _))))) (pss_one (ps_expr (pe_bm PySem.F.plainAttrs_dict PySem.F.slot_dict_update PySem.F.type_dict_update (mt_updT hu) (pv 3) (pa_cons (pe_dispT hu (pv 4) (pe_callB (call_min2 rfl) (by rfl) T.n_min (by decide +kernel) (pa_cons (pv 5) (pa_cons (pe_dget2 hu (pv 3) (pv 4) (pv 5) ⟨rfl, rfl, rfl, rfl⟩) pa_nil)))) pa_nil)))) pss_nil)))
    (pss_one (ps_ret (pv 3))))), ?_⟩
  have hu := hu_of hr
  intro F hF
  have S1 := Same.new (u := .dT []) hF
  have gF : upd H F (.dT []) F = _ := upd_same
  generalize upd H F (.dT []) = H1 at S1 gF ⊢
  obtain ⟨ps, gW, hp⟩ := hW.same S1
  obtain ⟨qs, gC, hq⟩ := hC.same S1
  have lp : ps.length = W.length := pair_len hp
  refine ⟨_, rfl, Wl, rfl, ⟨_, SqL.of gW⟩, for_list (K := K) (a := Wl) (xs := ps.map V.ref) (fun i σ H' => ∃ v4 v5 : Option V, σ = [some (.ref Wl), some (.ref Bl), some (.int c), some (.ref F), v4, v5] ∧ OffD F H1 H' ∧ MomAt H' F (foundOf (W.take i) C c)) ⟨_, _, rfl, OffD.refl F H1, ⟨[], gF, .nil⟩⟩
    (fun i σ H' _ ⟨_, _, _, o, m⟩ => SqL.of (o _ _ gW (ne_of gW gF fun z => nomatch z))) ?_ ?_⟩
  · rintro i x σ H2 hx ⟨v4, v5, rfl, O2, kvs, gF2, rows⟩
    rw [List.getElem?_map] at hx
    obtain ⟨p, ep, rfl⟩ := Option.map_eq_some_iff.mp hx
    obtain ⟨r, er, q, h1, h2⟩ := paired_get hp ep
    have tk : ∀ b ys, H1 b = some (.tup ys) → H2 b = some (.tup ys) := fun b ys hb => O2 _ _ hb (ne_of hb gF fun z => nomatch z)
    have t1 := tk _ _ h1
    have hk : SpAt H2 q r.1 := tk _ _ h2
    have gC2 := O2 _ _ gC (ne_of gC gF fun z => nomatch z)
    have hq2 : Paired (SpAt H2) qs C := Paired.mono (fun _ _ h => spAt_keep tk h) hq
    rw [get_take er, found_snoc]
    have len := found_len (W.take i) C c
    rw [List.length_take] at len
    have skip : ¬ (r.1 ∉ C ∧ r.2 ≤ c) → fnd1 C c (foundOf (W.take i) C c) r = foundOf (W.take i) C c := fun z => if_neg z
    refine ⟨p, _, rfl, SqT.of t1, rfl, _, _, rfl, _, _, rfl, rfl, _, rfl, _, rfl, Spot, inferInstance, inferInstance, r.1, C, Bl, _, by decide, hk.dp, rfl, SqL.of gC2, spots_dpA hq2, _, rfl, ite2 (fun nb => ?_) (fun nb => ?_)⟩
    · refine ⟨_, rfl, _, rfl, _, _, rfl, rfl, _, rfl, ite2 (fun le => ?_) (fun le => ?_)⟩
      · have nb : r.1 ∉ C := by simpa using nb
        have le : r.2 ≤ c := of_decide_eq_true le
        have step_ : fnd1 C c (foundOf (W.take i) C c) r = putS (foundOf (W.take i) C c) r.1 (minPy r.2 ((getS (foundOf (W.take i) C c) r.1).getD r.2)) := if_pos ⟨nb, le⟩
        rw [step_]
        have lenk : kvs.length < 100000 := by rw [rows.length]; omega
        refine ⟨_, rfl, .inr (.inr (.inl ⟨rfl, .inr ⟨_, gF2⟩⟩)), fun p3 hp3 => ?_⟩
        have S3 := Same.new (u := .dT []) hp3
        have g3 : upd H2 p3 (.dT []) p3 = _ := upd_same
        have n3 : F ≠ p3 := ne_of_none gF2 hp3
        generalize upd H2 p3 (.dT []) = H3 at S3 g3 ⊢
        have hk3 : SpAt H3 q r.1 := S3 _ _ hk
        have get_ := DGet.t (S3 _ _ gF2) hk3.key
        have last : ∀ z : Int, z = minPy r.2 ((getS (foundOf (W.take i) C c) r.1).getD r.2) → ∃ (q' : Addr) (kk' : List Key), V.ref q = .ref q' ∧ H3 p3 = some (.dT []) ∧ H3 q' = some (.tup (kk'.map kV)) ∧ rUpdT (.ref F) [.ref p3] (upd H3 p3 (.dT [(kk', .int z)])) (fun _ H' => ∃ v4 v5 : Option V, [some (.ref Wl), some (.ref Bl), some (.int c), some (.ref F), some (.ref q), some (.int r.2)] = [some (.ref Wl), some (.ref Bl), some (.int c), some (.ref F), v4, v5] ∧ OffD F H1 H' ∧ MomAt H' F (putS (foundOf (W.take i) C c) r.1 (minPy r.2 ((getS (foundOf (W.take i) C c) r.1).getD r.2)))) := fun z ez => by
          refine ⟨q, kk r.1, rfl, g3, hk3.key, F, p3, kvs, kk r.1, _, rfl, rfl, n3, ?_, upd_same, small5' (Nat.le_of_lt lenk), _, _, rfl, fun b o hb nF => ?_, _, upd_same, ?_⟩
          · rw [upd_ne n3]; exact S3 _ _ gF2
          · rw [upd_ne nF]
            have h2' := O2 _ _ hb nF
            rw [upd_ne (ne_of_none h2' hp3)]
            exact S3 _ _ h2'
          · rw [← ez]; exact rows.put r.1 rfl
        rcases rows.get r.1 with ⟨e1, e2⟩ | ⟨i1, v, e1, e2, rfl⟩
        · rw [e2] at get_
          exact ⟨_, rfl, _, rfl, _, rfl, F, rfl, .inr ⟨kvs, .inl (S3 _ _ gF2)⟩, _, rfl, _, rfl, _, get_, _, _, rfl, last _ (by rw [e1]; unfold minPy; rfl)⟩
        · rw [e2] at get_
          exact ⟨_, rfl, _, rfl, _, rfl, F, rfl, .inr ⟨kvs, .inl (S3 _ _ gF2)⟩, _, rfl, _, rfl, _, get_, _, _, rfl, last _ (by rw [e1]; unfold minPy; rfl)⟩
      · exact ⟨_, _, rfl, O2, by rw [skip fun z => le (decide_eq_true z.2)]; exact ⟨kvs, gF2, rows⟩⟩
    · refine iteF ⟨_, _, rfl, O2, ?_⟩
      rw [skip fun z => nb (by simpa using z.1)]
      exact ⟨kvs, gF2, rows⟩
  · rintro σ H2 ⟨v4, v5, rfl, O2, m⟩
    rw [List.length_map, lp, List.take_length] at m
    refine ⟨_, rfl, k F H2 hF (fun b o hb => ?_) m⟩
    have h1 := S1 _ _ hb
    exact O2 _ _ h1 (ne_of_none hb hF)
end

/-! ### took -/
/-- all but the queue's objects, the table and its lists is as it was -/
def OffAB (A : QA) (B : MB) (H H' : Hp) : Prop := ∀ b o, H b = some o → b ≠ A.q → b ≠ A.e → b ≠ A.t → b ≠ A.d → b ≠ B.M → b ≠ B.Wl → b ≠ B.Bl → H' b = some o
theorem OffAB.ofQ {A : QA} {B : MB} {H H1 : Hp} (x : Off A H H1) : OffAB A B H H1 := fun b o e a c d f _ _ _ => x b o e a c d f
theorem OffAB.ofM {A : QA} {B : MB} {H H1 : Hp} (x : OffM B H H1) : OffAB A B H H1 := fun b o e _ _ _ _ a c d => x b o e a c d
theorem OffAB.of {A : QA} {B : MB} {H H1 : Hp} (x : Same H H1) : OffAB A B H H1 := fun b o e _ _ _ _ _ _ _ => x b o e
theorem OffAB.trans {A : QA} {B : MB} {H H1 H2 : Hp} (x : OffAB A B H H1) (y : OffAB A B H1 H2) : OffAB A B H H2 := fun b o e a1 a2 a3 a4 a5 a6 a7 => y b o (x b o e a1 a2 a3 a4 a5 a6 a7) a1 a2 a3 a4 a5 a6 a7
/-- the second step with a new list of wishes -/
theorem OffAB.trans' {A : QA} {B B' : MB} {H H1 H2 : Hp} (x : OffAB A B H H1) (y : OffAB A B' H1 H2) (m : B'.M = B.M) (l : B'.Bl = B.Bl) (w : B'.Wl = B.Wl ∨ H B'.Wl = none) : OffAB A B H H2 := fun b o e a1 a2 a3 a4 a5 a6 a7 =>
  y b o (x b o e a1 a2 a3 a4 a5 a6 a7) a1 a2 a3 a4 (m ▸ a5) (w.elim (fun z => z ▸ a6) fun z q => by rw [q, z] at e; cases e) (l ▸ a7)
theorem rows_vals {kvs : List (List Key × V)} {es : List (Spot × Int)} (r : Rows (fun v i => v = V.int i) kvs es) : kvs.map (·.2) = es.map fun e => V.int e.2 := by
  unfold Rows at r
  induction r with
  | nil => rfl
  | cons h _ more => rw [List.map_cons, List.map_cons, h.2, more]
theorem ints_dpA {K : PySem.W.Frag} {H : Hp} : ∀ xs : List Int, DpA K H (xs.map V.int) xs
  | [] => .nil
  | x :: xs => .cons (.int x) (ints_dpA xs)
def sp__law_took (K : PySem.W.Frag) : Sp := fun vs H Q _ => ∃ (A : QA) (s : QS) (B : MB) (W : List Wish) (C : List Spot) (c : Int), vs = [.ref A.q, .ref B.M, .int c] ∧ QAt K H A s ∧ MAt H B W C ∧ Fits s W C ∧ Small s ∧ W.length < 50000 ∧ C.length < 50000 ∧ 0 ≤ c ∧
  ∀ (H' : Hp) (B' : MB) (s' : QS) (W' : List Wish) (C' : List Spot), OffAB A B H H' → B'.M = B.M → B'.Bl = B.Bl → (B'.Wl = B.Wl ∨ H B'.Wl = none) → QAt K H' A s' → MAt H' B' W' C' →
    (s' = s ∧ W' = W ∧ C' = C ∨ ∃ k, k ∈ W.map (·.1) ∧ k ∉ C ∧ s' = s.out k ∧ W' = W.filter (fun r => decide (¬ r.1 = k)) ∧ C' = C ++ [k]) → Q (.bl true) H'
theorem ok__law_took {P : Program} {w : World} {K : PySem.W.Frag} {mg : Str → Option Value} {base : Heap} {fd : FuncData} (T : Txt K mg w) (F : FnP K "_law_took" s__law_took [] fd) : FnOk P w K mg base CX0 4 (He.ga K "_law_took") fd ps__law_took (sp__law_took K) := by
  obtain ⟨fd_Queue_take, F_Queue_take⟩ := T.d_Queue_take
  have G_Queue_take := ok_Queue_take (P := P) (w := w) (base := base) T F_Queue_take
  have k_Queue_take := F_Queue_take.kp
  have b_Queue_take := bi_Queue_take F_Queue_take
  obtain ⟨fd__law_open, F__law_open⟩ := T.d__law_open
  have G__law_open := ok__law_open (P := P) (w := w) (base := base) T F__law_open
  have k__law_open := F__law_open.kp
  have b__law_open := bi__law_open F__law_open
  refine F.ok sc__law_took (fun vs H Q E h => ?len) (fun cdv A outer s H vs Q E hr h => ?body)
  case len => obtain ⟨A, s, B, W, C, c, rfl, hq0, hm0, fits, small, fewW, fewC, hc, k⟩ := h; rfl
  case body =>
  obtain ⟨A, s, B, W, C, c, rfl, hq0, hm0, fits, small, fewW, fewC, hc, k⟩ := h
  have hu := hu_of hr
  refine ⟨_, PSs.nox (pss_cons (ps_set (i := 3) sc__law_took.nd rfl (Or.inl rfl) (pe_call G__law_open (hr.mono (by first | decide | omega)) rfl T.g__law_open k__law_open b__law_open .nil pass0 (pa_cons (pe_dget hu (pv 1) pe_str (fun _ _ => rfl)) (pa_cons (pe_dget hu (pv 1) pe_str (fun _ _ => rfl)) (pa_cons (pv 2) pa_nil)))))
    (pss_cons (ps_set (i := 4) sc__law_took.nd rfl (Or.inr rfl) (pe_meth (pv 0) T.cl_Queue T.m_Queue_take G_Queue_take (hr.mono (by first | decide | omega)) b_Queue_take .nil pass0 (pa_cons (pv 2) pa_nil)))
    (pss_cons (ps_if (pt_cmpR op_isN (pv 4) pe_non (nomark _)) (pss_one (ps_ret (pe_cmpR (op_emptyT hu) (pv 3) pe_dnewK (nomark _)))) pss_nil)
    (pss_cons (ps_if (PW.pt (pw_or (pt_cmp (pc_dnotin hu (pv 4) (pv 3))) (pw_or1 (pt_cmpR op_ne (pe_dget hu (pv 3) (pv 4) (fun _ _ => rfl)) (pe_callB (cr_minD (α := Int) rfl hr.units (by decide)) (by rfl) T.n_min (by decide +kernel) (pa_cons (pe_listValT rfl (by rfl) T.n_list (by rfl) (pv 3)) pa_nil)) (nomark _))))) (pss_one (ps_ret pe_bl)) pss_nil)
    (pss_cons (ps_dput hu (pv 1) pe_str (pe_lc (own := [("_law_row", 5)]) rfl sc__law_took.nd (pi_list (pe_dget hu (pv 1) pe_str (fun _ _ => rfl))) (blkOk_by (own := [("_law_row", 5)]) (N := N__law_took) (sc := defScope s__law_took) (by decide +kernel)) (fun _ _ _ _ _ => (pg_name (i := 5) sc__law_took.nd rfl (Or.inl rfl))) (fun _ _ _ _ _ => (pts_one (pt_cmpR (show OpR _ (compareOp .NotEq) (rEqX K not) from op_neX hr.units) (pe_ix (show IxR _ (rIxT K) from ix_tup) (pv 5) pe_int (fun _ _ => rfl)) (pv 4) (nomark _)))) (fun _ _ _ _ _ => (pv 5))) rfl)
    (pss_cons (ps_expr (pe_bm PySem.F.plainAttrs_list PySem.F.slot_list_append PySem.F.type_list_append mt_append (pe_dget hu (pv 1) pe_str (fun _ _ => rfl)) (pa_cons (pv 4) pa_nil)))
    (pss_one (ps_ret pe_bl)))))))), ?_⟩
  have hu := hu_of hr
  refine ⟨_, rfl, B.M, _, rfl, hm0.gW, _, rfl, B.M, _, rfl, hm0.gB, _, rfl, B.Wl, B.Bl, W, C, c, rfl, hm0.w, hm0.b, fewW, fun F H1 hF S1 mo1 => ?_⟩
  have hq1 := hq0.same S1
  have hm1 := hm0.same S1
  refine ⟨_, rfl, A.q, A.dx, _, rfl, hq1.ob, qF_no (by decide +kernel), _, rfl, A, s, c, rfl, hq1, hc, small, fun v H2 O2 hq2 came => ?_⟩
  have hm2 := hm1.offQ hq1 O2
  obtain ⟨kvs, gF1, rows⟩ := mo1
  have gF2 : H2 F = some (.dT kvs) := by
    obtain ⟨ob, ⟨k1, e1, _⟩, ⟨k2, e2, _⟩, ⟨k3, e3, _⟩, _⟩ := hq0
    exact O2 _ _ gF1 (ne_of_none ob hF).symm (ne_of_none e1 hF).symm (ne_of_none e2 hF).symm (ne_of_none e3 hF).symm
  have O02 : OffAB A B H H2 := (OffAB.of S1).trans (OffAB.ofQ O2)
  cases first_ : s.first c with
  | none =>
    rw [first_] at came
    subst came
    have empty_ : kvs = [] := by
      rw [none_due fits first_] at rows
      exact List.length_eq_zero_iff.mp rows.length
    subst empty_
    have eqs : s.take c = s := by unfold QS.take; rw [first_]
    rw [eqs] at hq2
    refine ⟨_, rfl, rfl, _, rfl, iteT ⟨_, rfl, fun E hE => ?_⟩⟩
    have S3 := Same.new (u := .dK []) hE
    have gE : upd H2 E (.dK []) E = _ := upd_same
    generalize upd H2 E (.dK []) = H3 at S3 gE ⊢
    exact ⟨F, E, [], rfl, rfl, S3 _ _ gF2, gE, k H3 B s W C (O02.trans (OffAB.of S3)) rfl rfl (.inl rfl) (hq2.same S3) (hm2.same S3) (.inl ⟨rfl, rfl, rfl⟩)⟩
  | some key =>
    rw [first_] at came
    obtain ⟨kb, rfl, hk2⟩ := came
    have eqs : s.take c = s.out key := by unfold QS.take; rw [first_]
    rw [eqs] at hq2
    obtain ⟨nb, t, low_, le, gf, least_, full_⟩ := first_due fits first_
    have get_ : DGet H2 F (.ref kb) (some (.int t)) := by
      have g := DGet.t gF2 hk2.key
      rcases rows.get key with ⟨e1, e2⟩ | ⟨i1, v, e1, e2, rfl⟩
      · rw [e1] at gf; cases gf
      · rw [e2] at g
        rw [e1] at gf
        cases gf
        exact g
    have inW : key ∈ W.map (·.1) := List.mem_map.mpr ⟨_, least_mem low_, rfl⟩
    refine ⟨_, rfl, rfl, _, rfl, iteF ⟨_, rfl, _, rfl, F, _, rfl, get_, _, rfl, iteF ⟨_, rfl, _, rfl, F, _, rfl, get_, _, rfl, F, kvs, rfl, gF2, fun L hL => ?_⟩⟩⟩
    have S3 := Same.new (u := .lst (kvs.map (·.2))) hL
    have gL : upd H2 L (.lst (kvs.map (·.2))) L = _ := upd_same
    generalize upd H2 L (.lst (kvs.map (·.2))) = H3 at S3 gL ⊢
    have vals : kvs.map (·.2) = ((foundOf W C c).map (·.2)).map V.int := by rw [rows_vals rows, List.map_map]; rfl
    rw [vals] at gL
    cases efs : (foundOf W C c).map (·.2) with
    | nil => exact absurd (List.map_eq_nil_iff.mp efs) full_
    | cons x xs =>
      rw [efs] at gL
      refine ⟨L, _, x, xs, rfl, SqL.of gL, ints_dpA (x :: xs), fun i v ev ex => ?_⟩
      rw [least_ x xs efs] at ex
      rw [List.getElem?_map, ex] at ev
      obtain rfl : V.int t = v := Option.some.inj ev
      have same_ : (!decide (V.int t = V.int t)) = false := by simp
      refine ⟨rfl, _, rfl, ?_⟩
      rw [same_]
      have hm3 := hm2.same S3
      have hq3 := hq2.same S3
      have hk3 := hk2.same S3
      have O03 := O02.trans (OffAB.of (B := B) (A := A) S3)
      clear hm2 hq2 hk2 get_ gF2 gL S3 hL O02 O2 hq1 hm1 S1
      obtain ⟨ps, gW, hp⟩ := hm3.w
      refine iteF ⟨_, rfl, B.M, _, rfl, hm3.gW, B.Wl, rfl, ⟨_, SqL.of gW⟩, fun D hD => ?_⟩
      refine lc_pick (RR := RowWish) rowWish_keep (fun r : Wish => decide (¬ r.1 = key)) (ws := W) gW hp hD (by omega) (fun p r H4 hr4 S4 ⟨q, h1, h2⟩ Y N yes no => ?_) fun H4 qs S4 gD4 hq4 => ?_
      · exact ⟨rfl, ⟨_, rfl, p, _, 0, .ref q, rfl, rfl, SqT.of h1, atI_nat (j := 0) rfl, _, rfl, Spot, inferInstance, inferInstance, r.1, key, by decide, h2.dp, (hk3.same S4).dp, _, rfl, ite2 (fun h => ⟨_, rfl, yes H4 (fun _ _ h => h) (by rw [decide_not]; exact h)⟩) fun h => no H4 (fun _ _ h => h) (by rw [decide_not]; exact Bool.not_eq_true _ |>.mp h)⟩⟩
      have hm4 := hm3.same S4
      have hk4 := hk3.same S4
      have nD : D ≠ B.Bl := by
        obtain ⟨_, gB, _⟩ := hm3.b
        exact (ne_of_none gB hD).symm
      have freshD : H D = none := by
        cases e : H D with
        | none => rfl
        | some o =>
          obtain ⟨ob, ⟨k1, e1, _⟩, ⟨k2, e2, _⟩, ⟨k3, e3, _⟩, _⟩ := id hq3
          obtain ⟨ob4, ⟨_, e5, _⟩, ⟨_, e6, _⟩, _⟩ := id hm3
          have := O03 D o e (ne_of_none ob hD).symm (ne_of_none e1 hD).symm (ne_of_none e2 hD).symm (ne_of_none e3 hD).symm (ne_of_none ob4 hD).symm (ne_of_none e5 hD).symm (ne_of_none e6 hD).symm
          rw [hD] at this; cases this
      obtain ⟨hm5, o5⟩ := hm4.newW (L := D) ⟨qs, gD4, hq4⟩ nD
      refine ⟨_, rfl, B.M, _, rfl, DPut.k (k := .inr (Str.ofString "wishes")) hm4.ob (by show 2 < sizeLine; rw [sizeLine_eq]; decide), ?_⟩
      rw [mK_put]
      have hq5 := (hq3.same S4).offM hm4 o5
      have hk5 : SpAt (upd H4 B.M (.dK (mK { B with Wl := D }))) kb key := hm4.off o5 hk4 rfl
      have O05 := (O03.trans (OffAB.of (B := B) (A := A) S4)).trans (OffAB.ofM (A := A) o5)
      generalize upd H4 B.M (.dK (mK { B with Wl := D })) = H5 at hm5 o5 hq5 hk5 O05 ⊢
      obtain ⟨bs, gB, hb⟩ := hm5.b
      have lb : bs.length = C.length := pair_len hb
      obtain ⟨hm6, o6⟩ := hm5.setB (qs := bs ++ [kb]) (C2 := C ++ [key]) (Paired.snoc hb hk5)
      have e6 : upd H5 B.Bl (.lst (bs.map V.ref ++ [.ref kb])) = upd H5 B.Bl (.lst ((bs ++ [kb]).map V.ref)) := by rw [List.map_append]; rfl
      refine ⟨_, rfl, B.M, _, rfl, hm5.gB, .inl ⟨rfl, _, SqL.of gB⟩, _, rfl, B.Bl, _, _, rfl, rfl, gB, small5' (by rw [List.length_map]; omega), ?_⟩
      show Q (.bl true) (upd H5 B.Bl (.lst (bs.map V.ref ++ [.ref kb])))
      rw [e6]
      exact k _ { B with Wl := D } (s.out key) _ _ (O05.trans' (OffAB.ofM (A := A) o6) rfl rfl (.inr freshD)) rfl rfl (.inr freshD) (hq5.offM hm5 o6) hm6 (.inr ⟨key, inW, nb, rfl, rfl, rfl⟩)

/-! ### over -/
section
variable {K : PySem.W.Frag} {H H' : Hp} {A : QA} {s : QS} {B : MB} {W : List Wish} {C : List Spot}
theorem well_refs {a b : Addr} {n : Nat} {ps : List Addr} (w : WellAt H a n) (hb : H b = some (.lst (ps.map V.ref))) : b ≠ a := by
  obtain ⟨u, hu, x, y, rfl⟩ := w
  refine ne_of hb hu fun z => ?_
  injection z with z
  cases ps with
  | nil => cases z
  | cons p _ => injection z with z1 _; cases z1
theorem QAt.keep {a : Addr} {n : Nat} (h : QAt K H A s) (w : WellAt H a n) (x : Keep a H H') : QAt K H' A s := h.kinds fun b o e p => x b o (well_ne w e fun xs z => by rw [z] at p; cases p) e
theorem SpAt.keepW {a : Addr} {n : Nat} {b : Addr} {k : Spot} (h : SpAt H b k) (w : WellAt H a n) (x : Keep a H H') : SpAt H' b k := x _ _ (well_ne w h fun xs z => nomatch z) h
theorem MAt.keep {a : Addr} {n : Nat} (h : MAt H B W C) (w : WellAt H a n) (x : Keep a H H') : MAt H' B W C := by
  obtain ⟨ob, ⟨ps, e1, r1⟩, ⟨qs, e2, r2⟩, ne⟩ := h
  have tup : ∀ b ys, H b = some (.tup ys) → H' b = some (.tup ys) := fun b ys hb => x _ _ (well_ne w hb fun xs z => nomatch z) hb
  exact ⟨x _ _ (well_ne w ob fun xs z => nomatch z) ob, ⟨ps, x _ _ (well_refs w e1) e1, Paired.mono (fun _ _ r => rowWish_keep tup r) r1⟩, ⟨qs, x _ _ (well_refs w e2) e2, Paired.mono (fun _ _ r => spAt_keep tup r) r2⟩, ne⟩
theorem well_same {a : Addr} {n : Nat} (w : WellAt H a n) (x : Same H H') : WellAt H' a n := have ⟨u, hu, r⟩ := w; ⟨u, x _ _ hu, r⟩
theorem well_offQ {a : Addr} {n : Nat} (w : WellAt H a n) (hq : QAt K H A s) (x : Off A H H') : WellAt H' a n := by
  obtain ⟨u, hu, y, z, rfl⟩ := w
  exact ⟨_, hq.off x hu rfl, y, z, rfl⟩
theorem well_offM {a : Addr} {n : Nat} (w : WellAt H a n) (hm : MAt H B W C) (x : OffM B H H') : WellAt H' a n := by
  obtain ⟨ob, ⟨ps, e1, _⟩, ⟨qs, e2, _⟩, _⟩ := hm
  obtain ⟨u, hu, r⟩ := id w
  exact ⟨u, x _ _ hu (ne_of ob hu fun z => by obtain ⟨_, _, rfl⟩ := r; cases z).symm (well_refs w e1).symm (well_refs w e2).symm, r⟩
/-- all but the well, the queue's objects, the table and its lists is as it was -/
def OffW (a : Addr) (A : QA) (B : MB) (H H' : Hp) : Prop := ∀ b o, b ≠ a → H b = some o → b ≠ A.q → b ≠ A.e → b ≠ A.t → b ≠ A.d → b ≠ B.M → b ≠ B.Wl → b ≠ B.Bl → H' b = some o
theorem OffW.ofAB {a : Addr} (x : OffAB A B H H') : OffW a A B H H' := fun b o _ e => x b o e
theorem OffW.keep {a : Addr} (x : Keep a H H') : OffW a A B H H' := fun b o n e _ _ _ _ _ _ _ => x b o n e
theorem OffW.trans {a : Addr} {H2 : Hp} (x : OffW a A B H H') (y : OffW a A B H' H2) : OffW a A B H H2 := fun b o n e a1 a2 a3 a4 a5 a6 a7 => y b o n (x b o n e a1 a2 a3 a4 a5 a6 a7) a1 a2 a3 a4 a5 a6 a7
theorem OffW.trans' {a : Addr} {B' : MB} {H2 : Hp} (x : OffW a A B H H') (y : OffW a A B' H' H2) (m : B'.M = B.M) (l : B'.Bl = B.Bl) (w : B'.Wl = B.Wl ∨ H B'.Wl = none) : OffW a A B H H2 := fun b o n e a1 a2 a3 a4 a5 a6 a7 =>
  y b o n (x b o n e a1 a2 a3 a4 a5 a6 a7) a1 a2 a3 a4 (m ▸ a5) (w.elim (fun z => z ▸ a6) fun z q => by rw [q, z] at e; cases e) (l ▸ a7)
theorem paired_erase {α β : Type} {F : α → β → Prop} : ∀ {xs : List α} {ys : List β} (i : Nat), Paired F xs ys → Paired F (xs.eraseIdx i) (ys.eraseIdx i)
  | _, _, _, .nil => .nil
  | _, _, 0, .cons _ t => t
  | _, _, i + 1, .cons h t => .cons h (paired_erase i t)
theorem erase_at {α : Type} [DecidableEq α] : ∀ {xs : List α} {i : Nat} {x : α}, xs.Nodup → xs[i]? = some x → xs.eraseIdx i = xs.erase x ∧ ∀ m, m < i → xs[m]? ≠ some x
  | [], _, _, _, h => by simp at h
  | y :: r, 0, x, nd, h => by
    obtain rfl : y = x := Option.some.inj h
    exact ⟨by simp, fun m hm => absurd hm (Nat.not_lt_zero _)⟩
  | y :: r, i + 1, x, nd, h => by
    obtain ⟨a, b⟩ := List.nodup_cons.mp nd
    have h : r[i]? = some x := h
    have n : y ≠ x := fun z => a (z ▸ List.mem_of_getElem? h)
    obtain ⟨e, f⟩ := erase_at b h
    refine ⟨?_, fun m hm => ?_⟩
    · rw [List.eraseIdx_cons_succ, e, List.erase_cons_tail (by simpa using n)]
    · cases m with
      | zero => exact fun z => n (Option.some.inj z)
      | succ m => exact f m (by omega)
theorem map_erase {α β : Type} (f : α → β) : ∀ (xs : List α) (i : Nat), (xs.map f).eraseIdx i = (xs.eraseIdx i).map f
  | [], _ => rfl
  | _ :: _, 0 => rfl
  | x :: r, i + 1 => by rw [List.map_cons, List.eraseIdx_cons_succ, map_erase f r i]; rfl
end
def sp__law_over (K : PySem.W.Frag) : Sp := fun vs H Q _ => ∃ (a : Addr) (n : Nat) (A : QA) (s : QS) (B : MB) (W : List Wish) (C : List Spot) (c : Int) (z : Nat), vs = [.ref a, .ref A.q, .ref B.M, .int c] ∧ WellAt H a n ∧ n < 900000 ∧ QAt K H A s ∧ MAt H B W C ∧ Fits s W C ∧ C ≠ [] ∧ C.length ≤ 900 ∧ (∀ k ∈ C, okKey k = true) ∧ Dly s ∧ Bd s z ∧ z < 9000 ∧ W.length < 50000 ∧ 0 ≤ c ∧
  ∀ (H' : Hp) (n' : Nat) (s' : QS) (W' : List Wish) (k : Spot), k ∈ C → OffW a A B H H' → WellAt H' a n' → n' ≤ n + 5 → QAt K H' A s' → MAt H' B W' (C.erase k) → Fits s' W' (C.erase k) → Dly s' → Bd s' (z + 3) → (W' = W ∨ ∃ t, t ≤ c + 1000 ∧ W' = W ++ [(k, t)]) → Q .non H'
theorem ok__law_over {P : Program} {w : World} {K : PySem.W.Frag} {mg : Str → Option Value} {base : Heap} {fd : FuncData} (T : Txt K mg w) (F : FnP K "_law_over" s__law_over [] fd) : FnOk P w K mg base CX0 57 (He.ga K "_law_over") fd ps__law_over (sp__law_over K) := by
  obtain ⟨fd__law_one, F__law_one⟩ := T.d__law_one
  have G__law_one := ok__law_one (P := P) (w := w) (base := base) T F__law_one
  have k__law_one := F__law_one.kp
  have b__law_one := bi__law_one F__law_one
  obtain ⟨fd_Queue_retry, F_Queue_retry⟩ := T.d_Queue_retry
  have G_Queue_retry := ok_Queue_retry (P := P) (w := w) (base := base) T F_Queue_retry
  have k_Queue_retry := F_Queue_retry.kp
  have b_Queue_retry := bi_Queue_retry F_Queue_retry
  obtain ⟨fd_Queue_done, F_Queue_done⟩ := T.d_Queue_done
  have G_Queue_done := ok_Queue_done (P := P) (w := w) (base := base) T F_Queue_done
  have k_Queue_done := F_Queue_done.kp
  have b_Queue_done := bi_Queue_done F_Queue_done
  obtain ⟨fd__law_draw, F__law_draw⟩ := T.d__law_draw
  have G__law_draw := ok__law_draw (P := P) (w := w) (base := base) T F__law_draw
  have k__law_draw := F__law_draw.kp
  have b__law_draw := bi__law_draw F__law_draw
  obtain ⟨fd_Queue_delay, F_Queue_delay⟩ := T.d_Queue_delay
  have G_Queue_delay := ok_Queue_delay (P := P) (w := w) (base := base) T F_Queue_delay
  have k_Queue_delay := F_Queue_delay.kp
  have b_Queue_delay := bi_Queue_delay F_Queue_delay
  refine F.ok sc__law_over (fun vs H Q E h => ?len) (fun cdv A outer s H vs Q E hr h => ?body)
  case len => obtain ⟨a, n, A, s, B, W, C, c, z, rfl, hw, hn, hq, hm, fits, full, fewC, oks, dly, bd, hz, fewW, hc, k⟩ := h; rfl
  case body =>
  obtain ⟨a, n, A, s, B, W, C, c, z, rfl, hw, hn, hq, hm, fits, full, fewC, oks, dly, bd, hz, fewW, hc, k⟩ := h
  have hu := hu_of hr
  refine ⟨_, PSs.nox (pss_cons (ps_set (i := 4) sc__law_over.nd rfl (Or.inl rfl) (pe_call G__law_one (hr.mono (by first | decide | omega)) rfl T.g__law_one k__law_one b__law_one .nil pass0 (pa_cons (pv 0) (pa_cons (pe_dget hu (pv 2) pe_str (fun _ _ => rfl)) pa_nil))))
    (pss_cons (ps_expr (pe_bm PySem.F.plainAttrs_list PySem.F.slot_list_remove PySem.F.type_list_remove (mt_removeX hr.units) (pe_dget hu (pv 2) pe_str (fun _ _ => rfl)) (pa_cons (pv 4) pa_nil)))
    (pss_one (ps_if (pt_cmpR op_eq (pe_call G__law_draw (hr.mono (by first | decide | omega)) rfl T.g__law_draw k__law_draw b__law_draw .nil pass0 (pa_cons (pv 0) (pa_cons pe_int pa_nil))) pe_int (nomark _)) (pss_cons (ps_expr (pe_bm PySem.F.plainAttrs_list PySem.F.slot_list_append PySem.F.type_list_append mt_append (pe_dget hu (pv 2) pe_str (fun _ _ => rfl)) (pa_cons (pe_tup (pa_cons (pv 4) (pa_cons (pe_op op_add (pv 3) (pe_meth (pv 1) T.cl_Queue T.m_Queue_delay G_Queue_delay (hr.mono (by first | decide | omega)) b_Queue_delay .nil pass0 (pa_cons (pv 4) pa_nil))) pa_nil))) pa_nil)))
      (pss_one (ps_expr (pe_meth (pv 1) T.cl_Queue T.m_Queue_retry G_Queue_retry (hr.mono (by first | decide | omega)) b_Queue_retry .nil pass0 (pa_cons (pv 4) (pa_cons (pv 3) pa_nil)))))) (pss_one (ps_expr (pe_meth (pv 1) T.cl_Queue T.m_Queue_done G_Queue_done (hr.mono (by first | decide | omega)) b_Queue_done .nil pass0 (pa_cons (pv 4) pa_nil)))))))), ?_⟩
  have hu := hu_of hr
  obtain ⟨qs, gB, hb⟩ := hm.b
  have lq : qs.length = C.length := pair_len hb
  have posC : 0 < C.length := List.length_pos_iff.mpr full
  refine ⟨_, rfl, _, rfl, B.M, _, rfl, hm.gB, a, B.Bl, n, _, rfl, hw, by omega, gB, well_refs hw gB, by rw [List.length_map, lq]; exact posC, by rw [List.length_map, lq]; omega, fun y u1 n1 hy hn1 hu1 => ?_⟩
  obtain ⟨kb, hkb, rfl⟩ := List.mem_map.mp hy
  obtain ⟨i, hi⟩ := List.mem_iff_getElem?.mp hkb
  obtain ⟨key, ekey, hk0⟩ := paired_get hb hi
  have inC : key ∈ C := mem_at ekey
  have w1 := well_upd (H := H) (a := a) hu1
  have K1 : Keep a H (upd H a u1) := Keep.at_
  generalize upd H a u1 = H1 at w1 K1 ⊢
  have hq1 := hq.keep hw K1
  have hm1 := hm.keep hw K1
  have hk1 := hk0.keepW hw K1
  have L1 : OffW a A B H H1 := OffW.keep K1
  clear hb gB hy hk0 K1 hw hq hm
  obtain ⟨qs', gB, hb⟩ := hm1.b
  obtain ⟨ee, first_⟩ := erase_at fits.once ekey
  have lq' : qs'.length = C.length := pair_len hb
  refine ⟨_, rfl, B.M, _, rfl, hm1.gB, .inl ⟨rfl, _, SqL.of gB⟩, _, rfl, Spot, inferInstance, inferInstance, B.Bl, .ref kb, _, C, key, i, rfl, rfl, by decide, gB, spots_dpA hb, hk1.dp, ekey, first_, ?_⟩
  have hb2 := paired_erase i hb
  rw [ee] at hb2
  rw [map_erase]
  obtain ⟨hm2, o2⟩ := hm1.setB (C2 := C.erase key) hb2
  have hq2 := hq1.offM hm1 o2
  have w2 := well_offM w1 hm1 o2
  have hk2 := hm1.off o2 hk1 rfl
  have L2 := L1.trans (OffW.ofAB (OffAB.ofM o2))
  generalize upd H1 B.Bl (.lst ((qs'.eraseIdx i).map V.ref)) = H2 at hm2 hq2 w2 hk2 L2 ⊢
  clear hb hb2 gB L1 w1 hq1 hm1 hk1 o2
  refine ⟨_, rfl, a, n1, 3, rfl, w2, by omega, by decide, by decide, fun r3 u3 n3 r30 r31 hn3 hu3 => ?_⟩
  have w3 := well_upd (H := H2) (a := a) hu3
  have K3 : Keep a H2 (upd H2 a u3) := Keep.at_
  generalize upd H2 a u3 = H3 at w3 K3 ⊢
  have hq3 := hq2.keep w2 K3
  have hm3 := hm2.keep w2 K3
  have hk3 : SpAt H3 kb key := SpAt.keepW hk2 w2 K3
  have L3 := L2.trans (OffW.keep K3)
  have there : (getS s.taken key).isSome = true := by rw [fits.in_ key inC]; rfl
  have small : Small s := ⟨by have := bd.e; omega, by have := bd.t; omega, by have := bd.d; omega⟩
  have few : Few s := ⟨by have := bd.e; omega, by have := bd.t; omega, by have := bd.d; omega⟩
  clear hq2 hm2 hk2 K3 w2 L2
  have hok := oks key inC
  refine ⟨rfl, _, rfl, ite2 (fun _ => ?_) (fun _ => ?_)⟩
  · obtain ⟨ps, gW, hp⟩ := hm3.w
    have lp : ps.length = W.length := pair_len hp
    refine ⟨_, rfl, B.M, _, rfl, hm3.gW, .inl ⟨rfl, _, SqL.of gW⟩, _, rfl, _, rfl, _, rfl, A.q, A.dx, _, rfl, hq3.ob, qF_no (by decide +kernel), _, rfl, A, s, kb, key, rfl, hq3, hk3, hok, fun H4 S4 => ?_⟩
    refine ⟨_, _, rfl, rfl, smallN (by show 2 ≤ 1000; decide), fun T hT => ?_⟩
    have S5 := S4.trans (Same.new (u := .tup [.ref kb, .int (c + s.delay key)]) hT)
    have gT : upd H4 T (.tup [.ref kb, .int (c + s.delay key)]) T = _ := upd_same
    generalize upd H4 T (.tup [.ref kb, .int (c + s.delay key)]) = H5 at S5 gT ⊢
    have hm5 := hm3.same S5
    have hq5 := hq3.same S5
    have hk5 := hk3.same S5
    have w5 := well_same w3 S5
    have gW5 := S5 _ _ gW
    have hp5 : Paired (RowWish H5) ps W := Paired.mono (fun _ _ r => rowWish_keep (fun b ys hb => S5 _ _ hb) r) hp
    obtain ⟨hm6, o6⟩ := hm5.setW (ps := ps ++ [T]) (W2 := W ++ [(key, c + s.delay key)]) (Paired.snoc hp5 ⟨kb, gT, hk5⟩)
    have e6 : upd H5 B.Wl (.lst (ps.map V.ref ++ [.ref T])) = upd H5 B.Wl (.lst ((ps ++ [T]).map V.ref)) := by rw [List.map_append]; rfl
    refine ⟨B.Wl, _, _, rfl, rfl, gW5, small5' (by rw [List.length_map]; omega), ?_⟩
    rw [e6]
    have hq6 := hq5.offM hm5 o6
    have hk6 := hm5.off o6 hk5 rfl
    have w6 := well_offM w5 hm5 o6
    have L6 := (L3.trans (OffW.ofAB (OffAB.of (A := A) (B := B) S5))).trans (OffW.ofAB (OffAB.ofM (A := A) o6))
    generalize upd H5 B.Wl (.lst ((ps ++ [T]).map V.ref)) = H6 at hm6 hq6 hk6 w6 L6 ⊢
    refine ⟨_, rfl, A.q, A.dx, _, rfl, hq6.ob, qF_no (by decide +kernel), _, rfl, _, rfl, A, s, kb, key, c, rfl, hq6, hk6, hok, there, hc, (dly.nat key).1, few, fun H7 O7 hq7 => ?_⟩
    exact k H7 n3 _ _ key inC (L6.trans (OffW.ofAB (OffAB.ofQ O7))) (well_offQ w6 hq6 O7) (by omega) hq7 (hm6.offQ hq6 O7) (fits_retry fits inC c) (dly.retry key c) (bd.retry key c) (.inr ⟨_, by have := (dly.nat key).2; omega, rfl⟩)
  · refine ⟨_, rfl, A.q, A.dx, _, rfl, hq3.ob, qF_no (by decide +kernel), _, rfl, A, s, kb, key, rfl, hq3, hk3, hok, there, small, fun H7 O7 hq7 => ?_⟩
    exact k H7 n3 _ _ key inC (L3.trans (OffW.ofAB (OffAB.ofQ O7))) (well_offQ w3 hq3 O7) (by omega) hq7 (hm3.offQ hq3 O7) (fits_done fits inC) (dly.done key) ((bd.done key).mono (by omega)) (.inl rfl)

/-! ### worked off -/
theorem zip_spot {H : Hp} : ∀ {qs : List Addr} {ks : List Spot}, Paired (SpAt H) qs ks → ∀ {v : V} {k : Spot}, (v, k) ∈ (qs.map V.ref).zip ks → ∃ q, v = .ref q ∧ SpAt H q k
  | _, _, .nil, _, _, h => nomatch h
  | _, _, .cons h t, v, k, m => by
    rw [List.map_cons, List.zip_cons_cons] at m
    rcases List.mem_cons.mp m with e | m
    · cases e; exact ⟨_, rfl, h⟩
    · exact zip_spot t m
theorem spots_out {H : Hp} {qs : List Addr} {ks : List Spot} (h : Paired (SpAt H) qs ks) {out : List V} {ys : List Spot} (p : Paired (fun v k => (v, k) ∈ (qs.map V.ref).zip ks) out ys) : ∃ rs : List Addr, out = rs.map V.ref ∧ Paired (SpAt H) rs ys := out_spots (Paired.mono (fun v k m => zip_spot h m) p)
theorem spot_sable {ks : List Spot} (h : ∀ k ∈ ks, okKey k = true) : W.Sortable (ks.map W.Datum.toD) := .inl fun e he => by
  obtain ⟨k, hk, rfl⟩ := List.mem_map.mp he
  have := ok_full (h k hk)
  obtain ⟨items⟩ := k
  cases items with
  | nil => exact absurd rfl this
  | cons x r => exact ⟨_, _, rfl⟩
/-- all but the last -/
theorem cut_init (xs : List V) (v : V) : cutV (xs ++ [v]) none (some (-1)) = xs := by
  have e : HT.sIx (xs ++ [v]).length (xs ++ [v]).length (some (-1)) = xs.length := by
    rw [List.length_append]
    unfold HT.sIx
    simp
    omega
  unfold cutV
  rw [HT.sIx_none, e, List.drop_zero, Nat.sub_zero, List.take_left]
/-- the spots that are wished for, in order -/
theorem due_part {P : Program} {w : World} {K : PySem.W.Frag} {H : Hp} {B : MB} {W : List Wish} {C : List Spot} {σ : L2.St} {Q : VK} {U : List Spot} (hm : MAt H B W C) (s1 : σ[1]? = some (some (.ref B.M))) (len : σ.length = 8) (fewW : W.length < 50000) (fewU : U.length < 63) (inU : ∀ r ∈ W, r.1 ∈ U) (okW : ∀ r ∈ W, okKey r.1 = true)
    (k : ∀ (D : Addr) (H' : Hp) (ks : List Spot), Same H H' → H D = none → SpotsAt H' D (srtD ks) → ks.Nodup → (∀ k, k ∈ ks ↔ k ∈ W.map (·.1)) → Q (.ref D) H') :
    tCB (rSortSp P w) (tCons (tCB (rSetSp K P w) (tCons (tLc (iList K (tDGet (tVar 1) (tC (.str "wishes")))) (gTup K 2 (gCons (gName 3) (gCons (gName 7) gNil))) tYes (tVar 3) [3, 7]) tNil)) tNil) σ H Q := by
  match σ, s1, len with
  | [x0, some (.ref _), x2, x3, x4, x5, x6, x7], rfl, _ =>
  obtain ⟨ps, gW, hp⟩ := hm.w
  refine ⟨_, rfl, B.M, _, rfl, hm.gW, B.Wl, rfl, ⟨_, SqL.of gW⟩, fun D hD => ?_⟩
  refine lc_part (RR := RowWish) (RS := SpAt) rowWish_keep spAt_keep (fun _ => true) (fun r : Wish => r.1) (ws := W) gW hp hD (by omega) (fun p r H4 hr4 S4 ⟨q, h1, h2⟩ Y N yes no => ?_) fun H4 qs S4 gD4 hq4 => ?_
  · exact ⟨p, _, rfl, SqT.of h1, rfl, _, _, rfl, _, _, rfl, rfl, rfl, yes_ (iteT ⟨_, rfl, yes q H4 (fun _ _ h => h) rfl h2⟩)⟩
  have all_ : (W.filter fun _ => true) = W := List.filter_eq_self.mpr fun _ _ => rfl
  rw [all_] at hq4
  refine ⟨D, qs, _, rfl, SqL.of gD4, hq4, ⟨U, fewU, fun k hk => ?_⟩, fun p L hp4 sub all => ?_⟩
  · obtain ⟨r, hr, rfl⟩ := List.mem_map.mp hk
    exact inU r hr
  have S5 : Same H4 (upd H4 p (SpO P w p L)) := Same.new hp4
  refine ⟨p, L, rfl, upd_same, fun r hr => ⟨(sub r hr).2.same S5, ?_⟩, fun p2 out ks hp5 perm once pair_ => ?_⟩
  · obtain ⟨r', hr', e⟩ := List.mem_map.mp (sub r hr).1
    exact ok_full (e ▸ okW r' hr')
  obtain ⟨rs, rfl, hrs⟩ := out_spots pair_
  have S6 : Same (upd H4 p (SpO P w p L)) (upd (upd H4 p (SpO P w p L)) p2 (.lst (rs.map V.ref))) := Same.new hp5
  have freshD : H p2 = none := by
    cases e : H p2 with
    | none => rfl
    | some o => have := S5 _ _ (S4 _ _ e); rw [hp5] at this; cases this
  refine k p2 _ ks ((S4.trans S5).trans S6) freshD ⟨rs, upd_same, Paired.mono (fun _ _ h => h.same S6) hrs⟩ once fun key => ?_
  rw [perm.mem_iff]
  constructor
  · intro hk
    obtain ⟨r, hr, rfl⟩ := List.mem_map.mp hk
    exact (sub r hr).1
  · exact fun hk => all key hk
/-- all but the queue's objects and F is as it was -/
def OffF (A : QA) (F : Addr) (H H' : Hp) : Prop := ∀ b o, H b = some o → b ≠ A.q → b ≠ A.e → b ≠ A.t → b ≠ A.d → b ≠ F → H' b = some o
def sp__law_worked_off (K : PySem.W.Frag) : Sp := fun vs H Q _ => ∃ (A : QA) (s : QS) (B : MB) (W : List Wish) (C : List Spot) (c : Int) (z : Nat), vs = [.ref A.q, .ref B.M, .int c] ∧ QAt K H A s ∧ MAt H B W C ∧ Fits s W C ∧ C.length ≤ 900 ∧ (∀ k ∈ C, okKey k = true) ∧ (∀ r ∈ W, okKey r.1 = true ∧ r.2 ≤ c + 1000000) ∧ (∃ U : List Spot, U.length < 63 ∧ ∀ r ∈ W, r.1 ∈ U) ∧ Bd s z ∧ z < 9000 ∧ W.length < 50000 ∧ 0 ≤ c ∧
  ∀ H', OffAB A B H H' → Q (.bl true) H'
theorem ok__law_worked_off {P : Program} {w : World} {K : PySem.W.Frag} {mg : Str → Option Value} {base : Heap} {fd : FuncData} (T : Txt K mg w) (F : FnP K "_law_worked_off" s__law_worked_off [] fd) : FnOk P w K mg base CX0 57 (He.ga K "_law_worked_off") fd ps__law_worked_off (sp__law_worked_off K) := by
  obtain ⟨fd_Queue_done, F_Queue_done⟩ := T.d_Queue_done
  have G_Queue_done := ok_Queue_done (P := P) (w := w) (base := base) T F_Queue_done
  have k_Queue_done := F_Queue_done.kp
  have b_Queue_done := bi_Queue_done F_Queue_done
  obtain ⟨fd_Queue_take, F_Queue_take⟩ := T.d_Queue_take
  have G_Queue_take := ok_Queue_take (P := P) (w := w) (base := base) T F_Queue_take
  have k_Queue_take := F_Queue_take.kp
  have b_Queue_take := bi_Queue_take F_Queue_take
  obtain ⟨fd_Queue_working, F_Queue_working⟩ := T.d_Queue_working
  have G_Queue_working := ok_Queue_working (P := P) (w := w) (base := base) T F_Queue_working
  have k_Queue_working := F_Queue_working.kp
  have b_Queue_working := bi_Queue_working F_Queue_working
  obtain ⟨fd_Queue_waiting, F_Queue_waiting⟩ := T.d_Queue_waiting
  have G_Queue_waiting := ok_Queue_waiting (P := P) (w := w) (base := base) T F_Queue_waiting
  have k_Queue_waiting := F_Queue_waiting.kp
  have b_Queue_waiting := bi_Queue_waiting F_Queue_waiting
  refine F.ok sc__law_worked_off (fun vs H Q E h => ?len) (fun cdv A outer s H vs Q E hr h => ?body)
  case len => obtain ⟨A, s, B, W, C, c, z, rfl, hq, hm, fits, fewC, okC, okW, ⟨U, fewU, inU⟩, bd, hz, fewW, hc, k⟩ := h; rfl
  case body =>
  obtain ⟨A, s, B, W, C, c, z, rfl, hq, hm, fits, fewC, okC, okW, ⟨U, fewU, inU⟩, bd, hz, fewW, hc, k⟩ := h
  have hu := hu_of hr
  refine ⟨_, PSs.nox (pss_cons (ps_for PassesOwn.never rfl (pi_list (pe_callTy call_list_of (by rfl) T.n_list (by decide +kernel) (pa_cons (pe_dget hu (pv 1) pe_str (fun _ _ => rfl)) pa_nil))) (pg_name (i := 3) sc__law_worked_off.nd rfl (Or.inl rfl))
      (pss_one (ps_expr (pe_meth (pv 0) T.cl_Queue T.m_Queue_done G_Queue_done (hr.mono (by first | decide | omega)) b_Queue_done .nil pass0 (pa_cons (pv 3) pa_nil)))))
    (pss_cons (ps_set (i := 4) sc__law_worked_off.nd rfl (Or.inl rfl) (pe_callB (cr_sortSp rfl hr.units) (by rfl) T.n_sorted (by decide +kernel) (pa_cons (pe_callTy (cr_setSp rfl hr.units) (by rfl) T.n_set (by decide +kernel) (pa_cons (pe_lc (own := [("_law_spot", 3), ("_law_moment", 7)]) (g := gTup K 2 (gCons (gName 3) (gCons (gName 7) gNil))) rfl sc__law_worked_off.nd (pi_list (pe_dget hu (pv 1) pe_str (fun _ _ => rfl))) (blkOk_by (own := [("_law_spot", 3), ("_law_moment", 7)]) (N := N__law_worked_off) (sc := defScope s__law_worked_off) (by decide +kernel)) (fun _ _ _ _ _ => (pg_tup rfl (pgs_cons (pg_name (i := 3) sc__law_worked_off.nd rfl (Or.inl rfl) (Or.inr rfl)) (pgs_cons (pg_name (i := 7) sc__law_worked_off.nd rfl (Or.inl rfl) (Or.inr rfl)) pgs_nil)))) (fun _ _ _ _ _ => pts_nil) (fun _ _ _ _ _ => (pv 3))) pa_nil)) pa_nil)))
    (pss_cons (ps_if (pt_cmpR (show OpR _ (compareOp .NotEq) (rEqX K not) from op_neX hr.units) (pe_callB (cr_sortD (α := Spot) hr.units (by decide)) (by rfl) T.n_sorted (by decide +kernel) (pa_cons (pe_lc (own := [("_law_moment", 7), ("_law_spot", 3)]) (g := gTup K 2 (gCons (gName 7) (gCons (gName 3) gNil))) rfl sc__law_worked_off.nd (pi_list (pe_meth0 (pv 0) T.cl_Queue T.m_Queue_waiting G_Queue_waiting (hr.mono (by first | decide | omega)) b_Queue_waiting .nil pass0)) (blkOk_by (own := [("_law_moment", 7), ("_law_spot", 3)]) (N := N__law_worked_off) (sc := defScope s__law_worked_off) (by decide +kernel)) (fun _ _ _ _ _ => (pg_tup rfl (pgs_cons (pg_name (i := 7) sc__law_worked_off.nd rfl (Or.inl rfl) (Or.inr rfl)) (pgs_cons (pg_name (i := 3) sc__law_worked_off.nd rfl (Or.inl rfl) (Or.inr rfl)) pgs_nil)))) (fun _ _ _ _ _ => pts_nil) (fun _ _ _ _ _ => (pv 3))) pa_nil)) (pv 4) (nomark _)) (pss_one (ps_ret pe_bl)) pss_nil)
    (pss_cons (ps_set (i := 5) sc__law_worked_off.nd rfl (Or.inl rfl) (pe_lst pa_nil))
    (pss_cons (ps_for PassesOwn.never rfl (pi_range1 rfl T.n_range (pa_cons (pe_op op_add (pe_callB call_len_seq (by rfl) T.n_len (by decide +kernel) (pa_cons (pv 4) pa_nil)) pe_int) pa_nil)) (pg_name (i := 6) sc__law_worked_off.nd rfl (Or.inl rfl))
      (pss_one (ps_expr (pe_bm PySem.F.plainAttrs_list PySem.F.slot_list_append PySem.F.type_list_append mt_append (pv 5) (pa_cons (pe_meth (pv 0) T.cl_Queue T.m_Queue_take G_Queue_take (hr.mono (by first | decide | omega)) b_Queue_take .nil pass0 (pa_cons (pe_op op_add (pv 2) (pe_op op_pow pe_int pe_int)) pa_nil)) pa_nil)))))
    (pss_one (ps_ret (pe_and (pe_cmpR op_isN (pe_ix ix_list (pv 5) (pe_un un_neg pe_int) (fun _ _ => rfl)) pe_non (nomark _)) (pe_and (pe_cmpR (show OpR _ (compareOp .Eq) (rEqX K id) from op_eqX hr.units) (pe_callB (cr_sortD (α := Spot) hr.units (by decide)) (by rfl) T.n_sorted (by decide +kernel) (pa_cons (pe_slice sl_list (pv 5) po_none (po_some (pe_un un_neg pe_int))) pa_nil)) (pv 4) (nomark _)) (pe_one (pe_cmpR (show OpR _ (compareOp .Eq) (rEqX K id) from op_eqX hr.units) (pe_meth0 (pv 0) T.cl_Queue T.m_Queue_working G_Queue_working (hr.mono (by first | decide | omega)) b_Queue_working .nil pass0) (pv 4) (nomark _)))))))))))), ?_⟩
  have hu := hu_of hr
  obtain ⟨qs, gB, hb⟩ := hm.b
  have lq : qs.length = C.length := pair_len hb
  refine ⟨_, rfl, B.M, _, rfl, hm.gB, B.Bl, _, rfl, .inl (SqL.of gB), fun L hL => ?_⟩
  have S1 := Same.new (u := .lst (qs.map V.ref)) hL
  have gL : upd H L (.lst (qs.map V.ref)) L = _ := upd_same
  generalize upd H L (.lst (qs.map V.ref)) = H1 at S1 gL ⊢
  have hq1 := hq.same S1
  have hb1 : Paired (SpAt H1) qs C := Paired.mono (fun _ _ h => h.same S1) hb
  refine ⟨L, rfl, ⟨_, SqL.of gL⟩, for_list (K := K) (a := L) (xs := qs.map V.ref) (fun i σ H' => ∃ (v3 : Option V) (s' : QS), σ = [some (.ref A.q), some (.ref B.M), some (.int c), v3, none, none, none, none] ∧ Off A H1 H' ∧ QAt K H' A s' ∧ Fits s' W (C.drop i) ∧ Bd s' (z + i)) ⟨_, s, rfl, Off.refl A H1, hq1, fits, bd⟩
    (fun i σ H' _ ⟨_, _, _, o, _⟩ => SqL.of (hq1.off o gL rfl)) ?_ ?_⟩
  · rintro i x σ H2 hx ⟨v3, s2, rfl, O2, hq2, fits2, bd2⟩
    rw [List.getElem?_map] at hx
    obtain ⟨q, eq_, rfl⟩ := Option.map_eq_some_iff.mp hx
    obtain ⟨key, ekey, hk⟩ := paired_get hb1 eq_
    have lt := lt_at ekey
    have head_ : C.drop i = key :: C.drop (i + 1) := by
      rw [List.drop_eq_getElem_cons lt]
      rw [List.getElem?_eq_getElem lt] at ekey
      rw [Option.some.inj ekey]
    have inD : key ∈ C.drop i := by rw [head_]; exact List.mem_cons_self
    have next_ : (C.drop i).erase key = C.drop (i + 1) := by rw [head_, List.erase_cons_head]
    refine ⟨_, rfl, A.q, A.dx, _, rfl, hq2.ob, qF_no (by decide +kernel), _, rfl, A, s2, q, key, rfl, hq2, hq1.sp O2 hk, okC key (mem_at ekey), by rw [fits2.in_ key inD]; rfl, ⟨by have := bd2.e; omega, by have := bd2.t; omega, by have := bd2.d; omega⟩, fun H3 O3 hq3 => ⟨_, _, rfl, O2.trans O3, hq3, next_ ▸ fits_done fits2 inD, (bd2.done key).mono (by omega)⟩⟩
  rintro σ H2 ⟨v3, s2, rfl, O2, hq2, fits2, bd2⟩
  have none_ : C.drop (qs.map V.ref).length = [] := List.drop_eq_nil_of_le (by rw [List.length_map]; omega)
  rw [none_] at fits2
  have O02 : OffAB A B H H2 := (OffAB.of S1).trans (OffAB.ofQ O2)
  have hm2 : MAt H2 B W C := (hm.same S1).offQ hq1 O2
  have bd2 : Bd s2 (z + 900) := bd2.mono (by rw [List.length_map]; omega)
  clear O2 hq1 hb1 S1 gL hL gB hb fits bd none_ hm hq
  refine due_part hm2 rfl rfl fewW fewU inU (fun r hr => (okW r hr).1) fun D H3 ks S3 hD3 due_ once mem_ => ?_
  have hq3 := hq2.same S3
  have small : Small s2 := ⟨by have := bd2.e; omega, by have := bd2.t; omega, by have := bd2.d; omega⟩
  have okE : ∀ k ∈ s2.ents.map (·.1), okKey k = true := fun key hk => by
    have := (mem_ key).mp ((waits fits2 once mem_).mem_iff.mp hk)
    obtain ⟨r, hr, rfl⟩ := List.mem_map.mp this
    exact (okW r hr).1
  refine ⟨_, rfl, A.q, A.dx, _, rfl, hq3.ob, qF_no (by decide +kernel), A, s2, rfl, hq3, small, fun L4 H4 hL4 S4 ⟨ps4, gL4, hp4⟩ => ?_⟩
  refine ⟨L4, rfl, ⟨_, SqL.of gL4⟩, fun D5 hD5 => ?_⟩
  have lw : s2.waiting.length < 100000 := by
    have := (waiting_perm s2).length_eq
    unfold rowsOf at this
    rw [List.length_map] at this
    have := bd2.e
    omega
  refine lc_part (RR := fun H p (r : Row3) => ∃ q, H p = some (.tup [.int r.1.1, .ref q]) ∧ SpAt H q r.2) (RS := SpAt) (fun k ⟨q, a, b⟩ => ⟨q, k _ _ a, k _ _ b⟩) spAt_keep (fun _ => true) (fun r : Row3 => r.2) (ws := s2.waiting) gL4 hp4 hD5 lw (fun p r H6 hr6 S6 ⟨q, h1, h2⟩ Y N yes no => ?_) fun H6 qs6 S6 gD6 hq6 => ?_
  · exact ⟨p, _, rfl, SqT.of h1, rfl, _, _, rfl, _, _, rfl, rfl, rfl, yes_ (iteT ⟨_, rfl, yes q H6 (fun _ _ h => h) rfl h2⟩)⟩
  have all_ : (s2.waiting.filter fun _ => true) = s2.waiting := List.filter_eq_self.mpr fun _ _ => rfl
  rw [all_] at hq6
  refine ⟨D5, _, s2.waiting.map (·.2), rfl, SqL.of gD6, spots_dpA hq6, spot_sable fun key hk => okE key ((waiting_spots s2).mem_iff.mp hk), fun p7 out7 hp7 pair7 => ?_⟩
  obtain ⟨rs7, rfl, hrs7⟩ := spots_out hq6 pair7
  have S7 := Same.new (u := .lst (rs7.map V.ref)) hp7
  have g7 : upd H6 p7 (.lst (rs7.map V.ref)) p7 = _ := upd_same
  generalize upd H6 p7 (.lst (rs7.map V.ref)) = H7 at S7 g7 ⊢
  have S37 := (S4.trans S6).trans S7
  have due7 := due_.same S37
  have wait7 : SpotsAt H7 p7 (srtD (s2.waiting.map (·.2))) := ⟨rs7, g7, Paired.mono (fun _ _ h => h.same S7) hrs7⟩
  have same_ : srtD (s2.waiting.map (·.2)) = srtD ks := spots_sorted ((waiting_spots s2).trans (waits fits2 once mem_))
  refine ⟨_, rfl, List Spot, inferInstance, inferInstance, _, srtD ks, by decide, wait7.dp, due7.dp, _, rfl, ?_⟩
  rw [decide_eq_true same_]
  refine iteF ?_
  have hq7 := hq3.same S37
  have O07 := O02.trans (OffAB.of (A := A) (B := B) (S3.trans S37))
  have hm7 := hm2.same (S3.trans S37)
  clear S7 g7 wait7 hrs7 hp7 pair7 gD6 hq6 hD5 gL4 hp4 hL4 S4 S6 hq3 hq2 due_ S37 hm2 O02 S3
  refine ⟨smallN (by show 0 ≤ 1000; decide), fun F hF => ?_⟩
  have S8 := Same.new (u := .lst []) hF
  have gF : upd H7 F (.lst []) F = _ := upd_same
  have nDF : D ≠ F := by obtain ⟨_, g, _⟩ := due7; exact ne_of_none g hF
  have due8 := due7.same S8
  have hq8 := hq7.same S8
  have freshF : H F = none := by
    cases e : H F with
    | none => rfl
    | some o =>
      obtain ⟨ob, ⟨k1, e1, _⟩, ⟨k2, e2, _⟩, ⟨k3, e3, _⟩, _⟩ := id hq7
      obtain ⟨ob4, ⟨_, e5, _⟩, ⟨_, e6, _⟩, _⟩ := id hm7
      have := O07 F o e (ne_of_none ob hF).symm (ne_of_none e1 hF).symm (ne_of_none e2 hF).symm (ne_of_none e3 hF).symm (ne_of_none ob4 hF).symm (ne_of_none e5 hF).symm (ne_of_none e6 hF).symm
      rw [hF] at this; cases this
  generalize upd H7 F (.lst []) = H8 at S8 gF due8 hq8 ⊢
  have pow_ : (10 : Int) ^ (6 : Int).toNat = 1000000 := by decide
  have O08 := O07.trans (OffAB.of (A := A) (B := B) S8)
  have works0 : Works s2 ks [] (c + (10 : Int) ^ (6 : Int).toNat) := ⟨⟨W, fits2, fun r hr => by rw [pow_]; exact (okW r hr).2⟩, by rw [List.nil_append]; exact waits fits2 once mem_⟩
  have lenD : (srtD ks).length = ks.length := srtD_len ks
  have fewK : ks.length ≤ 50000 := by
    have := (waits fits2 once mem_).length_eq
    rw [List.length_map] at this
    have := bd2.e
    omega
  clear due7 hq7 S8 hF hm7
  obtain ⟨ds, gD, hds⟩ := id due8
  have lds : ds.length = ks.length := (pair_len hds).trans lenD
  refine ⟨_, rfl, D, _, rfl, .inl (SqL.of gD), _, _, rfl, rfl, ((ds.map V.ref).length : Int) + 1, rfl, by omega, by rw [List.length_map, lds]; omega, for_range (lo := 0) (n := (((ds.map V.ref).length : Int) + 1).toNat) (fun i σ H' => ∃ (v6 : Option V) (s' : QS) (Bk : List Spot) (qb : List Addr), σ = [some (.ref A.q), some (.ref B.M), some (.int c), v3, some (.ref D), some (.ref F), v6, none] ∧ QAt K H' A s' ∧ Works s' ks Bk (c + (10 : Int) ^ (6 : Int).toNat) ∧ Bd s' (z + 900 + i) ∧ Paired (SpAt H') qb Bk ∧
    ((i ≤ ks.length ∧ Bk.length = i ∧ H' F = some (.lst (qb.map V.ref))) ∨ (i = ks.length + 1 ∧ Bk.length = ks.length ∧ H' F = some (.lst (qb.map V.ref ++ [.non])))) ∧ SpotsAt H' D (srtD ks) ∧ OffF A F H8 H') ⟨_, s2, [], [], rfl, hq8, works0, bd2.mono (by omega), .nil, .inl ⟨Nat.zero_le _, rfl, gF⟩, due8, fun b o e _ _ _ _ _ => e⟩ ?_ ?_⟩
  · rintro i σ H9 hi ⟨v6, s9, Bk, qb, rfl, hq9, wk, bd9, hqb, now_, due9, O9⟩
    rw [List.length_map, lds] at hi
    have hi : i ≤ ks.length := by omega
    obtain ⟨len_, gF9⟩ : Bk.length = i ∧ H9 F = some (.lst (qb.map V.ref)) := by
      rcases now_ with ⟨_, a, b⟩ | ⟨z1, _⟩
      · exact ⟨a, b⟩
      · omega
    have lqb : qb.length = i := (pair_len hqb).trans len_
    refine ⟨_, rfl, .inl ⟨rfl, _, SqL.of gF9⟩, _, rfl, A.q, A.dx, _, rfl, hq9.ob, qF_no (by decide +kernel), _, rfl, _, _, rfl, rfl, ⟨by decide, by decide, by decide⟩, _, _, rfl, rfl, A, s9, _, rfl, hq9, by rw [pow_]; omega, ⟨by have := bd9.e; omega, by have := bd9.t; omega, by have := bd9.d; omega⟩, fun v H10 O10 hq10 came => ?_⟩
    have gF10 := hq9.off O10 gF9 rfl
    have hqb10 : Paired (SpAt H10) qb Bk := Paired.mono (fun _ _ h => hq9.sp O10 h) hqb
    obtain ⟨ds9, gD9, hds9⟩ := due9
    have gD10 := hq9.off O10 gD9 rfl
    have hds10 : Paired (SpAt H10) ds9 (srtD ks) := Paired.mono (fun _ _ h => hq9.sp O10 h) hds9
    have fin : ∀ (xs : List V) (s10 : QS) (Bk' : List Spot) (qb' : List Addr), QAt K H10 A s10 → Works s10 ks Bk' (c + (10 : Int) ^ (6 : Int).toNat) → Bd s10 (z + 900 + (i + 1)) → Paired (SpAt H10) qb' Bk' → ((i + 1 ≤ ks.length ∧ Bk'.length = i + 1 ∧ xs = qb'.map V.ref) ∨ (i + 1 = ks.length + 1 ∧ Bk'.length = ks.length ∧ xs = qb'.map V.ref ++ [.non])) →
        ∃ (v6 : Option V) (s' : QS) (Bk : List Spot) (qb : List Addr), [some (.ref A.q), some (.ref B.M), some (.int c), v3, some (.ref D), some (.ref F), some (.int (0 + i)), none] = [some (.ref A.q), some (.ref B.M), some (.int c), v3, some (.ref D), some (.ref F), v6, none] ∧ QAt K (upd H10 F (.lst xs)) A s' ∧ Works s' ks Bk (c + (10 : Int) ^ (6 : Int).toNat) ∧ Bd s' (z + 900 + (i + 1)) ∧ Paired (SpAt (upd H10 F (.lst xs))) qb Bk ∧
          ((i + 1 ≤ ks.length ∧ Bk.length = i + 1 ∧ upd H10 F (.lst xs) F = some (.lst (qb.map V.ref))) ∨ (i + 1 = ks.length + 1 ∧ Bk.length = ks.length ∧ upd H10 F (.lst xs) F = some (.lst (qb.map V.ref ++ [.non])))) ∧ SpotsAt (upd H10 F (.lst xs)) D (srtD ks) ∧ OffF A F H8 (upd H10 F (.lst xs)) := fun xs s10 Bk' qb' hq' wk' bd' hqb' now' => by
      have tup : ∀ b ys, H10 b = some (.tup ys) → upd H10 F (.lst xs) b = some (.tup ys) := fun b ys hb => (upd_ne (ne_of hb gF10 fun z => nomatch z)).trans hb
      refine ⟨_, s10, Bk', qb', rfl, hq'.kinds fun b o e p => (upd_ne (ne_of e gF10 fun z => by rw [z] at p; cases p)).trans e, wk', bd', Paired.mono (fun _ _ h => spAt_keep tup h) hqb', ?_, ⟨ds9, (upd_ne nDF).trans gD10, Paired.mono (fun _ _ h => spAt_keep tup h) hds10⟩, fun b o e a1 a2 a3 a4 a5 => (upd_ne a5).trans (O10 b o (O9 b o e a1 a2 a3 a4 a5) a1 a2 a3 a4)⟩
      rcases now' with ⟨x, y, rfl⟩ | ⟨x, y, rfl⟩
      · exact .inl ⟨x, y, upd_same⟩
      · exact .inr ⟨x, y, upd_same⟩
    refine ⟨F, _, _, rfl, rfl, gF10, small5' (by rw [List.length_map]; omega), ?_⟩
    by_cases lt : i < ks.length
    · obtain ⟨key, ek, wk'⟩ := works_step wk (by omega)
      rw [ek] at came
      obtain ⟨b, rfl, hk⟩ := came
      have eqs : s9.take (c + (10 : Int) ^ (6 : Int).toNat) = s9.out key := by unfold QS.take; rw [ek]
      rw [eqs] at hq10
      exact fin _ _ _ (qb ++ [b]) hq10 wk' (bd9.out key) (Paired.snoc hqb10 hk) (.inl ⟨lt, by rw [List.length_append, len_]; rfl, by rw [List.map_append]; rfl⟩)
    · obtain ⟨en, perm⟩ := works_end wk (by omega)
      rw [en] at came
      subst came
      have eqs : s9.take (c + (10 : Int) ^ (6 : Int).toNat) = s9 := by unfold QS.take; rw [en]
      rw [eqs] at hq10
      exact fin _ _ _ qb hq10 wk (bd9.mono (by omega)) hqb10 (.inr ⟨by omega, by omega, rfl⟩)
  · rintro σ H9 ⟨v6, s9, Bk, qb, rfl, hq9, wk, bd9, hqb, now_, due9, O9⟩
    rw [List.length_map, lds] at now_
    obtain ⟨len_, gF9⟩ : Bk.length = ks.length ∧ H9 F = some (.lst (qb.map V.ref ++ [.non])) := by
      rcases now_ with ⟨z1, _⟩ | ⟨_, a, b⟩
      · omega
      · exact ⟨a, b⟩
    obtain ⟨en, perm⟩ := works_end wk len_
    have P9 : OffAB A B H H9 := fun b o e a1 a2 a3 a4 a5 a6 a7 => O9 b o (O08 b o e a1 a2 a3 a4 a5 a6 a7) a1 a2 a3 a4 fun z => by rw [z, freshF] at e; cases e
    refine ⟨_, rfl, _, rfl, F, _, _, .non, rfl, rfl, SqL.of gF9, atI_last _ _, rfl, _, rfl, iteT ?_⟩
    have okB : ∀ k ∈ Bk, okKey k = true := fun key hk => by
      have := (mem_ key).mp (perm.mem_iff.mp hk)
      obtain ⟨r, hr, rfl⟩ := List.mem_map.mp this
      exact (okW r hr).1
    have sameB : srtD Bk = srtD ks := spots_sorted perm
    refine ⟨_, rfl, _, rfl, _, rfl, F, _, rfl, SqL.of gF9, fun p hp => ?_⟩
    rw [cut_init]
    have S10 := Same.new (u := .lst (qb.map V.ref)) hp
    have g10 : upd H9 p (.lst (qb.map V.ref)) p = _ := upd_same
    generalize upd H9 p (.lst (qb.map V.ref)) = H10 at S10 g10 ⊢
    have hqb10 : Paired (SpAt H10) qb Bk := Paired.mono (fun _ _ h => h.same S10) hqb
    refine ⟨p, _, Bk, rfl, SqL.of g10, spots_dpA hqb10, spot_sable okB, fun p2 out hp2 pair2 => ?_⟩
    obtain ⟨rs2, rfl, hrs2⟩ := spots_out hqb10 pair2
    have S11 := Same.new (u := .lst (rs2.map V.ref)) hp2
    have g11 : upd H10 p2 (.lst (rs2.map V.ref)) p2 = _ := upd_same
    generalize upd H10 p2 (.lst (rs2.map V.ref)) = H11 at S11 g11 ⊢
    have S911 := S10.trans S11
    have due11 := due9.same S911
    have got11 : SpotsAt H11 p2 (srtD Bk) := ⟨rs2, g11, Paired.mono (fun _ _ h => h.same S11) hrs2⟩
    have hq11 := hq9.same S911
    refine ⟨_, rfl, List Spot, inferInstance, inferInstance, srtD Bk, srtD ks, by decide, got11.dp, due11.dp, _, rfl, ?_⟩
    rw [decide_eq_true sameB]
    refine iteT ⟨_, rfl, A.q, A.dx, _, rfl, hq11.ob, qF_no (by decide +kernel), A, s9, rfl, hq11, fun e he => okB _ ?_, fun L H12 hL S12 work => ?_⟩
    · obtain ⟨Wz, fz, _⟩ := wk.fits
      rw [← fz.tak]
      exact List.mem_map_of_mem he
    · rw [works_keys wk] at work
      refine ⟨_, rfl, List Spot, inferInstance, inferInstance, srtD Bk, srtD ks, by decide, work.dp, (due11.same S12).dp, ?_⟩
      rw [decide_eq_true sameB]
      exact k H12 (P9.trans (OffAB.of (S911.trans S12)))

/-! ### a text times a number -/
def strRep (x : Str) (n : Int) : Str := if n < 1 then Str.empty else if (n == 1 || x.length == 0) = true then x else ⟨(List.replicate n.toNat x.cps).foldl (· ++ ·) #[]⟩
def rRepS : R2 := fun x y H Q => ∃ (z : Str) (n : Int), x = .str z ∧ y = .int n ∧ z.length ≤ 1000 ∧ -1000 ≤ n ∧ n ≤ 10000 ∧ Q (.str (strRep z n)) H
theorem rep_size (a : Array Nat) : ∀ (k : Nat) (acc : Array Nat), ((List.replicate k a).foldl (· ++ ·) acc).size = acc.size + k * a.size
  | 0, acc => by simp
  | k + 1, acc => by
    rw [List.replicate_succ, List.foldl_cons, rep_size a k, Array.size_append, Nat.succ_mul]
    omega
theorem op_rep_str {X : Cx} : OpR X (binaryOp .Mult) rRepS := by
  intro pins s σ H x y v u Q I rx ry h
  obtain ⟨z, n, rfl, rfl, h1, h2, h3, q⟩ := h
  obtain ⟨t, rfl⟩ := rx
  obtain ⟨t', rfl⟩ := ry
  have big : ¬ n < 1 → (z.length : Int) * n ≤ 1000 * 10000 := fun hn => Int.mul_le_mul (by omega) (by omega) (by omega) (by omega)
  refine PySem.P.mul_str ?_ (fun hn _ => ?_) (fun hn _ => ?_) ?_
  · rw [decide_eq_false (by omega), decide_eq_false (by omega)]; rfl
  · have := Int.le_ediv_of_mul_le (a := (z.length : Int)) (b := 2 ^ 63 - 1) (c := n) (by omega) (by have := big hn; omega)
    omega
  · have b := big hn
    have e : ((z.length * n.toNat : Nat) : Int) = (z.length : Int) * n := by rw [Int.natCast_mul, Int.toNat_of_nonneg (by omega)]
    unfold Builtin.Str.tooLong
    exact decide_eq_false (by rw [sizeLine_eq]; omega)
  · unfold strRep at q
    split
    · rename_i c
      rw [if_pos c] at q
      exact ⟨by decide, ⟨.str _, H, I.tok _, ⟨_, rfl⟩, q⟩⟩
    · rename_i c
      rw [if_neg c] at q
      split
      · rename_i d
        rw [if_pos d] at q
        exact ⟨.str _, H, I, ⟨_, rfl⟩, q⟩
      · rename_i d
        rw [if_neg d] at q
        refine ⟨?_, ⟨.str _, H, I.tok _, ⟨_, rfl⟩, q⟩⟩
        have b := big c
        have e : ((z.length * n.toNat : Nat) : Int) = (z.length : Int) * n := by rw [Int.natCast_mul, Int.toNat_of_nonneg (by omega)]
        have l := rep_size z.cps n.toNat #[]
        show ((List.replicate n.toNat z.cps).foldl (· ++ ·) #[]).size ≤ sizeLine
        rw [l, sizeLine_eq]
        have e2 : z.cps.size = z.length := rfl
        rw [e2, Nat.mul_comm]
        show 0 + z.length * n.toNat ≤ _
        omega

/-! ### the law -/
section
variable {K : PySem.W.Frag} {H H' : Hp} {A : QA} {s : QS} {B : MB} {W : List Wish} {C : List Spot}
theorem OffW.tup {a : Addr} {n : Nat} (x : OffW a A B H H') (w : WellAt H a n) (hq : QAt K H A s) (hm : MAt H B W C) : ∀ b ys, H b = some (.tup ys) → H' b = some (.tup ys) := fun b ys hb => by
  obtain ⟨ob, ⟨k1, e1, _⟩, ⟨k2, e2, _⟩, ⟨k3, e3, _⟩, _⟩ := hq
  obtain ⟨ob4, ⟨_, e5, _⟩, ⟨_, e6, _⟩, _⟩ := hm
  exact x b _ (well_ne w hb fun _ z => nomatch z) hb (ne_of hb ob fun z => nomatch z) (ne_of hb e1 fun z => nomatch z) (ne_of hb e2 fun z => nomatch z) (ne_of hb e3 fun z => nomatch z) (ne_of hb ob4 fun z => nomatch z) (ne_of hb e5 fun z => nomatch z) (ne_of hb e6 fun z => nomatch z)
theorem OffW.lst {a b : Addr} {xs : List V} (x : OffW a A B H H') (hq : QAt K H A s) (hm : MAt H B W C) (hb : H b = some (.lst xs)) (n1 : b ≠ a) (n2 : b ≠ B.Wl) (n3 : b ≠ B.Bl) : H' b = some (.lst xs) := by
  obtain ⟨ob, ⟨k1, e1, _⟩, ⟨k2, e2, _⟩, ⟨k3, e3, _⟩, _⟩ := hq
  exact x b _ n1 hb (ne_of hb ob fun z => nomatch z) (ne_of hb e1 fun z => nomatch z) (ne_of hb e2 fun z => nomatch z) (ne_of hb e3 fun z => nomatch z) (ne_of hb hm.ob fun z => nomatch z) n2 n3
/-- the keys' list stands -/
theorem OffW.spots {a b : Addr} {n : Nat} {ks : List Spot} (x : OffW a A B H H') (w : WellAt H a n) (hq : QAt K H A s) (hm : MAt H B W C) (hb : SpotsAt H b ks) (n2 : b ≠ B.Wl) (n3 : b ≠ B.Bl) : SpotsAt H' b ks := by
  obtain ⟨qs, g, r⟩ := hb
  exact ⟨qs, x.lst hq hm g (well_refs w g) n2 n3, Paired.mono (fun _ _ h => spAt_keep (x.tup w hq hm) h) r⟩
theorem well_offAB {a : Addr} {n : Nat} (w : WellAt H a n) (hq : QAt K H A s) (hm : MAt H B W C) (x : OffAB A B H H') : WellAt H' a n := by
  obtain ⟨ps, e5, _⟩ := hm.w
  obtain ⟨qs, e6, _⟩ := hm.b
  have n5 := well_refs w e5
  have n6 := well_refs w e6
  obtain ⟨u, hu, y, z, rfl⟩ := w
  obtain ⟨ob, ⟨k1, e1, _⟩, ⟨k2, e2, _⟩, ⟨k3, e3, _⟩, _⟩ := hq
  exact ⟨_, x _ _ hu (ne_of hu ob fun z => nomatch z) (ne_of hu e1 fun z => nomatch z) (ne_of hu e2 fun z => nomatch z) (ne_of hu e3 fun z => nomatch z) (ne_of hu hm.ob fun z => nomatch z) n5.symm n6.symm, y, z, rfl⟩
end
def kBox (i : Nat) : Spot := ⟨["box", "x", strRep "m" ((0 + (i : Int)) + 1)]⟩
def keysL (n : Nat) : List Spot := (List.range n).map kBox ++ [⟨["cup", "y", "a"]⟩, ⟨["b", "y", "a"]⟩]
theorem keysL_ok : ∀ n, n ≤ 10 → (keysL n).all okKey = true := by
  have box : (List.range 10).all (fun i => okKey (kBox i)) = true := by decide +kernel
  have two : ([⟨["cup", "y", "a"]⟩, ⟨["b", "y", "a"]⟩] : List Spot).all okKey = true := by decide +kernel
  intro n hn
  unfold keysL
  rw [List.all_append, two, Bool.and_true, List.all_map, List.all_eq_true]
  intro i hi
  exact List.all_eq_true.mp box i (List.mem_range.mpr (by have := List.mem_range.mp hi; omega))
theorem keysL_len (n : Nat) : (keysL n).length = n + 2 := by unfold keysL; rw [List.length_append, List.length_map, List.length_range]; rfl
theorem putK_snoc {kvs : List (Key × V)} {k : Key} {v : V} (h : k ∉ kvs.map (·.1)) : putK kvs k v = kvs ++ [(k, v)] := putK_new v (by
  induction kvs with
  | nil => rfl
  | cons p r more =>
    rw [List.map_cons, List.mem_cons, not_or] at h
    rw [valV_neg fun e => h.1 e.symm]
    exact more h.2)
theorem mK_merge (B : MB) : mergeK [] (mK B) = mK B := by
  show putK (putK ([] : List (Key × V)) (Sum.inr (Str.ofString "wishes")) (.ref B.Wl)) (Sum.inr (Str.ofString "busy")) (.ref B.Bl) = _
  have e1 : putK ([] : List (Key × V)) (Sum.inr (Str.ofString "wishes")) (.ref B.Wl) = [(Sum.inr (Str.ofString "wishes"), .ref B.Wl)] := putK_snoc (fun h => nomatch h)
  rw [e1]
  exact putK_snoc fun h => mk_nm (Sum.inr.inj (List.mem_singleton.mp h)).symm
/-- between two turns -/
structure TurnS (K : PySem.W.Frag) (H : Hp) (A : QA) (B : MB) (Ky p3 aw : Addr) (cells : List V) (KS : List Spot) (i : Nat) (c : Int) (n : Nat) (s : QS) (W : List Wish) (C : List Spot) : Prop where
  w : WellAt H aw n
  q : QAt K H A s
  m : MAt H B W C
  fits : Fits s W C
  dly : Dly s
  bd : Bd s (3 * i)
  lc : C.length ≤ 4
  lw : W.length ≤ i
  ky : SpotsAt H Ky KS
  k1 : Ky ≠ B.Wl
  k2 : Ky ≠ B.Bl
  okW : ∀ r ∈ W, r.1 ∈ KS ∧ r.2 ≤ c + 1000
  okC : ∀ k ∈ C, k ∈ KS
  c0 : 0 ≤ c
  g : H p3 = some (.lst cells)
  p1 : p3 ≠ B.Wl
  p2 : p3 ≠ B.Bl
  p4 : p3 ≠ aw
theorem TurnS.same {K : PySem.W.Frag} {H H' : Hp} {A : QA} {B : MB} {Ky p3 aw : Addr} {cells : List V} {KS : List Spot} {i : Nat} {c : Int} {n : Nat} {s : QS} {W : List Wish} {C : List Spot} (t : TurnS K H A B Ky p3 aw cells KS i c n s W C) (x : Same H H') : TurnS K H' A B Ky p3 aw cells KS i c n s W C :=
  { t with w := well_same t.w x, q := t.q.same x, m := t.m.same x, ky := t.ky.same x, g := x _ _ t.g }
theorem TurnS.keep {K : PySem.W.Frag} {H H' : Hp} {A : QA} {B : MB} {Ky p3 aw : Addr} {cells : List V} {KS : List Spot} {i : Nat} {c : Int} {n n' : Nat} {s : QS} {W : List Wish} {C : List Spot} (t : TurnS K H A B Ky p3 aw cells KS i c n s W C) (x : Keep aw H H') (w' : WellAt H' aw n') : TurnS K H' A B Ky p3 aw cells KS i c n' s W C :=
  { t with w := w', q := t.q.keep t.w x, m := t.m.keep t.w x, ky := OffW.spots (OffW.keep (A := A) (B := B) x) t.w t.q t.m t.ky t.k1 t.k2, g := x _ _ t.p4 t.g }
theorem TurnS.clock {K : PySem.W.Frag} {H : Hp} {A : QA} {B : MB} {Ky p3 aw : Addr} {cells : List V} {KS : List Spot} {i : Nat} {c d : Int} {n : Nat} {s : QS} {W : List Wish} {C : List Spot} (t : TurnS K H A B Ky p3 aw cells KS i c n s W C) (h : 0 ≤ d) : TurnS K H A B Ky p3 aw cells KS i (c + d) n s W C :=
  { t with okW := fun r hr => ⟨(t.okW r hr).1, by have := (t.okW r hr).2; omega⟩, c0 := by have := t.c0; omega }
theorem TurnS.up {K : PySem.W.Frag} {H : Hp} {A : QA} {B : MB} {Ky p3 aw : Addr} {cells : List V} {KS : List Spot} {i : Nat} {c : Int} {n : Nat} {s : QS} {W : List Wish} {C : List Spot} (t : TurnS K H A B Ky p3 aw cells KS i c n s W C) : TurnS K H A B Ky p3 aw cells KS (i + 1) c n s W C :=
  { t with bd := t.bd.mono (by omega), lw := Nat.le_succ_of_le t.lw }
/-- what is worked on is what is busy -/
theorem work_part {K : PySem.W.Frag} {D : Ends} {σ : L2.St} {H : Hp} {A : QA} {B : MB} {Ky p3 aw : Addr} {cells : List V} {KS : List Spot} {i : Nat} {c : Int} {n : Nat} {s : QS} {W : List Wish} {C : List Spot} (t : TurnS K H A B Ky p3 aw cells KS i c n s W C) (okK : ∀ key ∈ KS, okKey key = true) (s3 : σ[3]? = some (some (.ref A.q))) (s6 : σ[6]? = some (some (.ref B.M)))
    (nx : ∀ H', TurnS K H' A B Ky p3 aw cells KS i c n s W C → D.nx σ H') :
    tIfS (tTest (tOp (rEqX K not) (tMeth (He.ga K "Queue") "working" (sp_Queue_working K) [] E0 (tVar 3) tNil) (tCB (rSortD K Spot) (tCons (tDGet (tVar 6) (tC (.str "busy"))) tNil)))) (tRet (tC (.bl false))) tNext D σ H := by
  have okT : ∀ e ∈ s.taken, okKey e.1 = true := fun e he => okK _ (t.okC _ (t.fits.tak ▸ List.mem_map_of_mem he))
  refine ⟨_, s3, A.q, A.dx, _, rfl, t.q.ob, qF_no (by decide +kernel), A, s, rfl, t.q, okT, fun L H1 hL S1 work => ?_⟩
  have t1 := t.same S1
  obtain ⟨qs, gB, hb⟩ := t1.m.b
  refine ⟨_, s6, B.M, _, rfl, t1.m.gB, B.Bl, _, C, rfl, SqL.of gB, spots_dpA hb, spot_sable fun k hk => okK k (t.okC k hk), fun p out hp pair => ?_⟩
  obtain ⟨rs, rfl, hrs⟩ := spots_out hb pair
  have S2 := Same.new (u := .lst (rs.map V.ref)) hp
  have got : SpotsAt (upd H1 p (.lst (rs.map V.ref))) p (srtD C) := ⟨rs, upd_same, Paired.mono (fun _ _ h => h.same S2) hrs⟩
  have work2 := work.same S2
  have same_ : s.working = srtD C := by unfold QS.working; rw [t.fits.tak]
  refine ⟨List Spot, inferInstance, inferInstance, s.working, srtD C, by decide, work2.dp, got.dp, _, rfl, ?_⟩
  rw [decide_eq_true same_]
  exact iteF (nx _ (t1.same S2))
/-- something is let go -/
theorem over_part {K : PySem.W.Frag} {D : Ends} {σ : L2.St} {H : Hp} {A : QA} {B : MB} {Ky p3 aw : Addr} {cells : List V} {KS : List Spot} {i : Nat} {c : Int} {n : Nat} {s : QS} {W : List Wish} {C : List Spot} (t : TurnS K H A B Ky p3 aw cells KS i c n s W C) (okK : ∀ key ∈ KS, okKey key = true) (hn : n < 900000) (hi : i < 200) (s2 : σ[2]? = some (some (.ref aw))) (s3 : σ[3]? = some (some (.ref A.q))) (s4 : σ[4]? = some (some (.int c))) (s6 : σ[6]? = some (some (.ref B.M)))
    (nx : ∀ H' n' s' W' C', TurnS K H' A B Ky p3 aw cells KS (i + 1) c n' s' W' C' → n' ≤ n + 5 → D.nx σ H') :
    tIfS (tTest (tOp (rEqX K not) (tDGet (tVar 6) (tC (.str "busy"))) (tLst tNil))) (tDrop (tCall (sp__law_over K) [] E0 (tCons (tVar 2) (tCons (tVar 3) (tCons (tVar 6) (tCons (tVar 4) tNil)))))) tNext D σ H := by
  refine ⟨_, s6, B.M, _, rfl, t.m.gB, smallN (by show 0 ≤ 1000; decide), fun E hE => ?_⟩
  have t1 := t.same (Same.new (u := .lst []) hE)
  have gE : upd H E (.lst []) E = _ := upd_same
  generalize upd H E (.lst []) = H1 at t1 gE ⊢
  have none_ : SpotsAt H1 E [] := ⟨[], gE, .nil⟩
  refine ⟨List Spot, inferInstance, inferInstance, C, [], by decide, t1.m.b.dp, none_.dp, _, rfl, ?_⟩
  by_cases e : C = []
  · rw [decide_eq_true e]
    exact iteF (nx _ _ _ _ _ t1.up (by omega))
  · rw [decide_eq_false e]
    refine iteT ⟨_, s2, _, s3, _, s6, _, s4, aw, n, A, s, B, W, C, c, 3 * i, rfl, t1.w, hn, t1.q, t1.m, t1.fits, e, by have := t1.lc; omega, fun k hk => okK k (t1.okC k hk), t1.dly, t1.bd, by omega, by have := t1.lw; omega, t1.c0, fun H' n' s' W' k hk x w' hn' q' m' f' d' b' or_ => ?_⟩
    have subC : ∀ j ∈ C.erase k, j ∈ KS := fun j hj => t1.okC j (List.mem_of_mem_erase hj)
    have lenC : (C.erase k).length ≤ 4 := Nat.le_trans (List.length_erase_le ..) t1.lc
    refine nx H' n' s' W' (C.erase k) ⟨w', q', m', f', d', b', lenC, ?_, x.spots t1.w t1.q t1.m t1.ky t1.k1 t1.k2, t1.k1, t1.k2, ?_, subC, t1.c0, x.lst t1.q t1.m t1.g t1.p4 t1.p1 t1.p2, t1.p1, t1.p2, t1.p4⟩ hn'
    · have := t1.lw
      rcases or_ with rfl | ⟨tm, _, rfl⟩
      · omega
      · rw [List.length_append]; show W.length + 1 ≤ _; omega
    · rcases or_ with rfl | ⟨tm, le, rfl⟩
      · exact t1.okW
      · intro r hr
        rcases List.mem_append.mp hr with y | y
        · exact t1.okW r y
        · rw [List.mem_singleton.mp y]; exact ⟨t1.okC k hk, le⟩
def sp_law (K : PySem.W.Frag) : Sp := fun vs H Q _ => ∃ (a : Addr) (ns : List Int), vs = [.ref a] ∧ SqL K H a (ns.map V.int) ∧ ns.length ≤ 63 ∧ ∀ H', Q (.bl true) H'
theorem ok_law {P : Program} {w : World} {K : PySem.W.Frag} {mg : Str → Option Value} {base : Heap} {fd : FuncData} (T : Txt K mg w) (F : FnP K "law" s_law [] fd) : FnOk P w K mg base CX0 58 (He.ga K "law") fd ps_law (sp_law K) := by
  obtain ⟨fd__law_well, F__law_well⟩ := T.d__law_well
  have G__law_well := ok__law_well (P := P) (w := w) (base := base) T F__law_well
  have k__law_well := F__law_well.kp
  have b__law_well := bi__law_well F__law_well
  obtain ⟨fd_Queue___init__, F_Queue___init__⟩ := T.d_Queue___init__
  have G_Queue___init__ := ok_Queue___init__ (P := P) (w := w) (base := base) T F_Queue___init__
  have k_Queue___init__ := F_Queue___init__.kp
  obtain ⟨mv_Queue___init__, b_Queue___init__⟩ := bk_Queue___init__ F_Queue___init__
  obtain ⟨mv0_Queue___init__, b_Queue___init__0⟩ := bk0_Queue___init__ F_Queue___init__
  obtain ⟨fd__law_cell_at, F__law_cell_at⟩ := T.d__law_cell_at
  have G__law_cell_at := ok__law_cell_at (P := P) (w := w) (base := base) T F__law_cell_at
  have k__law_cell_at := F__law_cell_at.kp
  have b__law_cell_at := bi__law_cell_at F__law_cell_at
  obtain ⟨fd__law_draw, F__law_draw⟩ := T.d__law_draw
  have G__law_draw := ok__law_draw (P := P) (w := w) (base := base) T F__law_draw
  have k__law_draw := F__law_draw.kp
  have b__law_draw := bi__law_draw F__law_draw
  obtain ⟨fd_Queue_add, F_Queue_add⟩ := T.d_Queue_add
  have G_Queue_add := ok_Queue_add (P := P) (w := w) (base := base) T F_Queue_add
  have k_Queue_add := F_Queue_add.kp
  have b_Queue_add := bi_Queue_add F_Queue_add
  obtain ⟨fd_Queue_working, F_Queue_working⟩ := T.d_Queue_working
  have G_Queue_working := ok_Queue_working (P := P) (w := w) (base := base) T F_Queue_working
  have k_Queue_working := F_Queue_working.kp
  have b_Queue_working := bi_Queue_working F_Queue_working
  obtain ⟨fd__law_worked_off, F__law_worked_off⟩ := T.d__law_worked_off
  have G__law_worked_off := ok__law_worked_off (P := P) (w := w) (base := base) T F__law_worked_off
  have k__law_worked_off := F__law_worked_off.kp
  have b__law_worked_off := bi__law_worked_off F__law_worked_off
  obtain ⟨fd__law_one, F__law_one⟩ := T.d__law_one
  have G__law_one := ok__law_one (P := P) (w := w) (base := base) T F__law_one
  have k__law_one := F__law_one.kp
  have b__law_one := bi__law_one F__law_one
  obtain ⟨fd__law_took, F__law_took⟩ := T.d__law_took
  have G__law_took := ok__law_took (P := P) (w := w) (base := base) T F__law_took
  have k__law_took := F__law_took.kp
  have b__law_took := bi__law_took F__law_took
  obtain ⟨fd__law_over, F__law_over⟩ := T.d__law_over
  have G__law_over := ok__law_over (P := P) (w := w) (base := base) T F__law_over
  have k__law_over := F__law_over.kp
  have b__law_over := bi__law_over F__law_over
  refine F.ok sc_law (fun vs H Q E h => ?len) (fun cdv A outer s H vs Q E hr h => ?body)
  case len => obtain ⟨a, ns, rfl, hS, hlen, k⟩ := h; rfl
  case body =>
  obtain ⟨a, ns, rfl, hS, hlen, k⟩ := h
  have hu := hu_of hr
  refine ⟨_, PSs.nox (pss_cons (ps_for PassesOwn.never rfl (pi_list (pe_op op_cat (pe_lst (pa_cons (pe_call G__law_cell_at (hr.mono (by first | decide | omega)) rfl T.g__law_cell_at k__law_cell_at b__law_cell_at .nil pass0 (pa_cons (pv 0) (pa_cons pe_int pa_nil))) pa_nil)) (pe_slice sl_list (pv 0) (po_some pe_int) (po_some pe_int)))) (pg_name (i := 1) sc_law.nd rfl (Or.inl rfl))
      (pss_cons (ps_set (i := 2) sc_law.nd rfl (Or.inl rfl) (pe_call G__law_well (hr.mono (by first | decide | omega)) rfl T.g__law_well k__law_well b__law_well .nil pass0 (pa_cons (pv 1) pa_nil)))
        (pss_cons (ps_par (i := 3) (j := 4) (by rfl) sc_law.nd rfl rfl (by decide) rfl rfl (pa_cons (pe_makeK0 T.mk_Queue G_Queue___init__ (hr.mono (by first | decide | omega)) rfl T.g_Queue b_Queue___init__ pass0 (pk_cons (pe_call G__law_one (hr.mono (by first | decide | omega)) rfl T.g__law_one k__law_one b__law_one .nil pass0 (pa_cons (pv 2) (pa_cons (pe_lst (pa_cons pe_int (pa_cons pe_int pa_nil))) pa_nil))) pk_nil)) (pa_cons (pe_call G__law_draw (hr.mono (by first | decide | omega)) rfl T.g__law_draw k__law_draw b__law_draw .nil pass0 (pa_cons (pv 2) (pa_cons pe_int pa_nil))) pa_nil)) (by rfl))
        (pss_cons (ps_setLc (i := 5) (own := [("_law_k", 11)]) rfl sc_law.nd rfl rfl (sw_true rfl rfl rfl (by decide +kernel)) (pi_range1 rfl T.n_range (pa_cons (pe_call G__law_one (hr.mono (by first | decide | omega)) rfl T.g__law_one k__law_one b__law_one .nil pass0 (pa_cons (pv 2) (pa_cons (pe_lst (pa_cons pe_int (pa_cons pe_int (pa_cons pe_int pa_nil)))) pa_nil))) pa_nil)) (blkOk_by (own := [("_law_k", 11)]) (N := N_law) (sc := defScope s_law) (by decide +kernel)) (fun _ _ _ _ _ => (pg_name (i := 11) sc_law.nd rfl (Or.inl rfl))) (fun _ _ _ _ _ => pts_nil) (fun _ _ _ _ _ => (pe_tup (pa_cons pe_str (pa_cons pe_str (pa_cons (pe_op op_rep_str pe_str (pe_op op_add (pv 11) pe_int)) pa_nil))))))
        (pss_cons (ps_set (i := 5) sc_law.nd rfl (Or.inl rfl) (pe_op op_cat (pv 5) (pe_lst (pa_cons (pe_tup (pa_cons pe_str (pa_cons pe_str (pa_cons pe_str pa_nil)))) (pa_cons (pe_tup (pa_cons pe_str (pa_cons pe_str (pa_cons pe_str pa_nil)))) pa_nil)))))
        (pss_cons (ps_set (i := 6) sc_law.nd rfl (Or.inl rfl) (pe_disp (pps_cons pe_str (pe_lst pa_nil) (pps_cons pe_str (pe_lst pa_nil) pps_nil)) (by rfl) (by rfl) (fun z => by cases z) (by decide)))
        (pss_cons (ps_for PassesOwn.never rfl (pi_range1 rfl T.n_range (pa_cons (pe_call G__law_draw (hr.mono (by first | decide | omega)) rfl T.g__law_draw k__law_draw b__law_draw .nil pass0 (pa_cons (pv 2) (pa_cons pe_int pa_nil))) pa_nil)) (pg_name (i := 7) sc_law.nd rfl (Or.inl rfl))
          (pss_cons (ps_set (i := 4) sc_law.nd rfl (Or.inl rfl) (pe_op op_add (pv 4) (pe_call G__law_one (hr.mono (by first | decide | omega)) rfl T.g__law_one k__law_one b__law_one .nil pass0 (pa_cons (pv 2) (pa_cons (pe_lst (pa_cons pe_int (pa_cons pe_int (pa_cons pe_int pa_nil)))) pa_nil)))))
            (pss_cons (ps_set (i := 8) sc_law.nd rfl (Or.inl rfl) (pe_call G__law_draw (hr.mono (by first | decide | omega)) rfl T.g__law_draw k__law_draw b__law_draw .nil pass0 (pa_cons (pv 2) (pa_cons pe_int pa_nil))))
            (pss_cons (ps_if (pt_cmpR op_lt (pv 8) pe_int (nomark _)) (pss_cons (ps_par (i := 9) (j := 10) (by rfl) sc_law.nd rfl rfl (by decide) rfl rfl (pa_cons (pe_call G__law_one (hr.mono (by first | decide | omega)) rfl T.g__law_one k__law_one b__law_one .nil pass0 (pa_cons (pv 2) (pa_cons (pv 5) pa_nil))) (pa_cons (pe_callB (call_max2 rfl) (by rfl) T.n_max (by decide +kernel) (pa_cons pe_int (pa_cons (pe_op op_sub (pe_op op_add (pv 4) (pe_call G__law_draw (hr.mono (by first | decide | omega)) rfl T.g__law_draw k__law_draw b__law_draw .nil pass0 (pa_cons (pv 2) (pa_cons pe_int pa_nil)))) pe_int) pa_nil))) pa_nil)) (by rfl))
              (pss_cons (ps_expr (pe_bm PySem.F.plainAttrs_list PySem.F.slot_list_append PySem.F.type_list_append mt_append (pe_dget hu (pv 6) pe_str (fun _ _ => rfl)) (pa_cons (pe_tup (pa_cons (pv 9) (pa_cons (pv 10) pa_nil))) pa_nil)))
              (pss_one (ps_expr (pe_meth (pv 3) T.cl_Queue T.m_Queue_add G_Queue_add (hr.mono (by first | decide | omega)) b_Queue_add .nil pass0 (pa_cons (pv 9) (pa_cons (pv 10) pa_nil))))))) (pss_one (ps_if (PW.pt (pw_and (pt_cmpR op_lt (pv 8) pe_int (nomark _)) (pw_and1 (pt_cmpR op_lt (pe_callB call_len_seq (by rfl) T.n_len (by decide +kernel) (pa_cons (pe_dget hu (pv 6) pe_str (fun _ _ => rfl)) pa_nil)) pe_int (nomark _))))) (pss_one (ps_if (pt_not (pt_val (pe_call G__law_took (hr.mono (by first | decide | omega)) rfl T.g__law_took k__law_took b__law_took .nil pass0 (pa_cons (pv 3) (pa_cons (pv 6) (pa_cons (pv 4) pa_nil)))))) (pss_one (ps_ret pe_bl)) pss_nil)) (pss_one (ps_if (pt_cmpR (show OpR _ (compareOp .NotEq) (rEqX K not) from op_neX hr.units) (pe_dget hu (pv 6) pe_str (fun _ _ => rfl)) (pe_lst pa_nil) (nomark _)) (pss_one (ps_expr (pe_call G__law_over (hr.mono (by first | decide | omega)) rfl T.g__law_over k__law_over b__law_over .nil pass0 (pa_cons (pv 2) (pa_cons (pv 3) (pa_cons (pv 6) (pa_cons (pv 4) pa_nil))))))) pss_nil)))))
            (pss_one (ps_if (pt_cmpR (show OpR _ (compareOp .NotEq) (rEqX K not) from op_neX hr.units) (pe_meth0 (pv 3) T.cl_Queue T.m_Queue_working G_Queue_working (hr.mono (by first | decide | omega)) b_Queue_working .nil pass0) (pe_callB (cr_sortD (α := Spot) hr.units (by decide)) (by rfl) T.n_sorted (by decide +kernel) (pa_cons (pe_dget hu (pv 6) pe_str (fun _ _ => rfl)) pa_nil)) (nomark _)) (pss_one (ps_ret pe_bl)) pss_nil))))))
        (pss_one (ps_if (pt_not (pt_val (pe_call G__law_worked_off (hr.mono (by first | decide | omega)) rfl T.g__law_worked_off k__law_worked_off b__law_worked_off .nil pass0 (pa_cons (pv 3) (pa_cons (pv 6) (pa_cons (pv 4) pa_nil)))))) (pss_one (ps_ret pe_bl)) pss_nil)))))))))
    (pss_one (ps_ret pe_bl))), ?_⟩
  have hu := hu_of hr
  refine ⟨_, rfl, a, ns, rfl, hS, fun i0 => ⟨smallN (by show 1 ≤ 1000; decide), fun p1 q1 => ?_⟩⟩
  have S1 := Same.new (u := .lst [.int i0]) q1
  have g1 : (upd H p1 (.lst [.int i0])) p1 = _ := upd_same
  generalize upd H p1 (.lst [.int i0]) = H1 at S1 g1 ⊢
  refine ⟨_, rfl, _, rfl, _, rfl, a, _, rfl, S1.seq hS, fun p2 q2 => ?_⟩
  have S2 := Same.new (u := .lst (cutV (ns.map V.int) (some 1) (some 3))) q2
  have g2 : (upd H1 p2 (.lst (cutV (ns.map V.int) (some 1) (some 3)))) p2 = _ := upd_same
  generalize upd H1 p2 (.lst (cutV (ns.map V.int) (some 1) (some 3))) = H2 at S2 g2 ⊢
  have hc : (cutV (ns.map V.int) (some 1) (some 3)).length ≤ 63 := Nat.le_trans (cutV_length _ _ _) (by rw [List.length_map]; exact hlen)
  refine ⟨p1, p2, _, _, rfl, rfl, S2 _ _ g1, g2, smallN (by show 1 + _ ≤ 1000; omega), fun p3 q3 => ?_⟩
  have g3 : (upd H2 p3 (.lst ([.int i0] ++ cutV (ns.map V.int) (some 1) (some 3)))) p3 = _ := upd_same
  generalize upd H2 p3 (.lst ([.int i0] ++ cutV (ns.map V.int) (some 1) (some 3))) = H3 at g3 ⊢
  clear S1 S2 g1 g2 q1 q2 q3
  generalize hcells : [V.int i0] ++ cutV (ns.map V.int) (some 1) (some 3) = cells at g3 ⊢
  have hci : ∀ x ∈ cells, ∃ z, x = .int z := fun x hx => by
    rw [← hcells] at hx
    rcases List.mem_append.mp hx with h | h
    · exact ⟨i0, List.mem_singleton.mp h⟩
    · exact cut_int h
  clear hcells hc
  refine ⟨p3, rfl, ⟨_, SqL.of g3⟩, for_list (K := K) (a := p3) (xs := cells) (fun _ σ H' => ∃ v1 v2 v3 v4 v5 v6 v7 v8 v9 v10 v11 : Option V, σ = [some (.ref a), v1, v2, v3, v4, v5, v6, v7, v8, v9, v10, v11] ∧ H' p3 = some (.lst cells))
    ⟨_, _, _, _, _, _, _, _, _, _, _, rfl, g3⟩ (fun _ σ H' _ ⟨_, _, _, _, _, _, _, _, _, _, _, _, g⟩ => SqL.of g) ?_ ?_⟩
  · rintro j x σ H4 hx ⟨v1, v2, v3, v4, v5, v6, v7, v8, v9, v10, v11, rfl, g4⟩
    obtain ⟨z, rfl⟩ := hci x (mem_at hx)
    refine ⟨_, rfl, z, rfl, fun aw u0 hw0 hu0 => ?_⟩
    have w5 := well_upd (H := H4) (a := aw) hu0
    have n3 : p3 ≠ aw := ne_of_none g4 hw0
    have g5 := (Same.new (u := u0) hw0) _ _ g4
    generalize upd H4 aw u0 = H5 at w5 g5 ⊢
    refine ⟨_, rfl, smallN (by show 2 ≤ 1000; decide), fun p6 q6 => ?_⟩
    have S6 := Same.new (u := .lst [.int 1, .int 4]) q6
    have g6 : upd H5 p6 (.lst [.int 1, .int 4]) p6 = _ := upd_same
    have w6 := well_same w5 S6
    have n6 : p6 ≠ aw := well_ne3 w5 q6
    have g56 := S6 _ _ g5
    generalize upd H5 p6 (.lst [.int 1, .int 4]) = H6 at S6 g6 w6 g56 ⊢
    refine ⟨aw, p6, 0, _, rfl, w6, by omega, g6, n6, by show 0 < 2; decide, by show 2 ≤ 1000; decide, fun y u7 m7 hy hm7 hu7 => ?_⟩
    obtain ⟨lg, rfl, l1, l2⟩ : ∃ lg : Int, y = .int lg ∧ 1 ≤ lg ∧ lg ≤ 1000 := by
      simp only [List.mem_cons, List.not_mem_nil, or_false] at hy
      rcases hy with rfl | rfl <;> exact ⟨_, rfl, by decide, by decide⟩
    have w7 := well_upd (H := H6) (a := aw) hu7
    have g57 : upd H6 aw u7 p3 = _ := (upd_ne n3).trans g56
    generalize upd H6 aw u7 = H7 at w7 g57 ⊢
    clear S6 g6 w6 g56 w5 g5 n6 hy q6
    -- the queue
    refine ⟨rfl, rfl, fun x dx hx hdx ndx => ⟨x, dx, lg, rfl, upd_same, l1, l2, fun A H9 eA he ht hd keep hq => ⟨rfl, ?_⟩⟩⟩
    have S9 : Same H7 H9 := fun b o hb => keep b o ((upd_ne (ne_of_none hb hx)).trans ((upd_ne (ne_of_none hb hdx)).trans hb)) (ne_of_none hb hx)
    have w9 := well_same w7 S9
    have g9 := S9 _ _ g57
    clear keep he ht hd S9 w7 g57 hx hdx ndx
    subst eA
    refine ⟨_, rfl, aw, m7, 9, rfl, w9, by omega, by decide, by decide, fun clk u10 n10 c0 c1 hn10 hu10 => ⟨_, _, rfl, ?_⟩⟩
    have w10 := well_upd (H := H9) (a := aw) hu10
    have K10 : Keep aw H9 (upd H9 aw u10) := Keep.at_
    have hq10 := hq.keep w9 K10
    have g10 := K10 _ _ n3 g9
    generalize upd H9 aw u10 = H10 at w10 K10 hq10 g10 ⊢
    clear K10 hq w9 g9
    refine ⟨_, rfl, smallN (by show 3 ≤ 1000; decide), fun p11 q11 => ?_⟩
    have S11 := Same.new (u := .lst [.int 1, .int 3, .int 10]) q11
    have g11 : upd H10 p11 (.lst [.int 1, .int 3, .int 10]) p11 = _ := upd_same
    have w11 := well_same w10 S11
    have n11 : p11 ≠ aw := well_ne3 w10 q11
    have hq11 := hq10.same S11
    have gc11 := S11 _ _ g10
    generalize upd H10 p11 (.lst [.int 1, .int 3, .int 10]) = H11 at S11 g11 w11 hq11 gc11 ⊢
    refine ⟨aw, p11, n10, _, rfl, w11, by omega, g11, n11, by show 0 < 3; decide, by show 3 ≤ 1000; decide, fun y u12 n12 hy hn12 hu12 => ?_⟩
    obtain ⟨kn, rfl, k1, k2⟩ : ∃ kn : Nat, y = .int (kn : Int) ∧ 1 ≤ kn ∧ kn ≤ 10 := by
      simp only [List.mem_cons, List.not_mem_nil, or_false] at hy
      rcases hy with rfl | rfl | rfl
      · exact ⟨1, rfl, by decide, by decide⟩
      · exact ⟨3, rfl, by decide, by decide⟩
      · exact ⟨10, rfl, by decide, by decide⟩
    have w12 := well_upd (H := H11) (a := aw) hu12
    have K12 : Keep aw H11 (upd H11 aw u12) := Keep.at_
    have hq12 := hq11.keep w11 K12
    have g12 := K12 _ _ n3 gc11
    generalize upd H11 aw u12 = H12 at w12 K12 hq12 g12 ⊢
    clear S11 g11 w11 n11 hq11 gc11 K12 hy q11 w10 hq10 g10
    refine ⟨(kn : Int), rfl, by omega, by omega, fun D hD => ?_⟩
    refine lc_it walk_range (fun i H' => Same H12 H' ∧ ∃ qs : List Addr, H' D = some (.lst (qs.map V.ref)) ∧ qs.length = i ∧ Paired (SpAt H') qs ((List.range i).map kBox)) ⟨Same.new hD, [], upd_same, rfl, .nil⟩ (fun _ _ _ _ => True.intro) ?_ ?_
    · rintro i x H0 H13 hi ⟨S13, qs, gD, lqs, hqs⟩ ⟨rfl, rfl⟩
      refine ⟨rfl, yes_ (iteT ⟨_, rfl, _, _, rfl, rfl, ?_⟩)⟩
      refine ⟨_, _, rfl, rfl, by decide, by omega, by omega, smallN (by show 3 ≤ 1000; decide), fun T hT => ?_⟩
      have S14 := Same.new (u := .tup [.str "box", .str "x", .str (strRep "m" ((0 + (i : Int)) + 1))]) hT
      have gT : upd H13 T (.tup [.str "box", .str "x", .str (strRep "m" ((0 + (i : Int)) + 1))]) T = _ := upd_same
      have hk : SpAt (upd H13 T (.tup [.str "box", .str "x", .str (strRep "m" ((0 + (i : Int)) + 1))])) T (kBox i) := gT
      have gD14 := S14 _ _ gD
      refine ⟨_, gD14, smallN (by rw [List.length_map]; omega), fun b o hb => ?_, qs ++ [T], by rw [upd_same, List.map_append]; rfl, by rw [List.length_append, lqs]; rfl, ?_⟩
      · rw [upd_ne (ne_of_none hb hD)]; exact S14 _ _ (S13 _ _ hb)
      · have back : ∀ b ys, upd H13 T (.tup [.str "box", .str "x", .str (strRep "m" ((0 + (i : Int)) + 1))]) b = some (.tup ys) → upd (upd H13 T (.tup [.str "box", .str "x", .str (strRep "m" ((0 + (i : Int)) + 1))])) D (.lst (qs.map V.ref ++ [.ref T])) b = some (.tup ys) := fun b ys hb => (upd_ne (ne_of hb gD14 fun z => nomatch z)).trans hb
        rw [List.range_succ, List.map_append]
        exact Paired.snoc (Paired.mono (fun _ _ h => spAt_keep (fun b ys hb => back _ _ (S14 _ _ hb)) h) hqs) (spAt_keep back hk)
    · rintro H13 ⟨S13, qs, gD, lqs, hqs⟩
      have w13 := well_same w12 S13
      have hq13 := hq12.same S13
      have g13 := S13 _ _ g12
      clear hD w12 hq12 g12 S13
      refine ⟨_, rfl, smallN (by show 3 ≤ 1000; decide), fun t1 h1 => ⟨smallN (by show 3 ≤ 1000; decide), fun t2 h2 => ⟨smallN (by show 2 ≤ 1000; decide), fun L h3 => ?_⟩⟩⟩
      have S14 : Same H13 (upd (upd (upd H13 t1 (.tup [.str "cup", .str "y", .str "a"])) t2 (.tup [.str "b", .str "y", .str "a"])) L (.lst [.ref t1, .ref t2])) := Same.trans' (Same.trans' (Same.new h1) (Same.new h2)) (Same.new h3)
      have gt1 : upd (upd (upd H13 t1 (.tup [.str "cup", .str "y", .str "a"])) t2 (.tup [.str "b", .str "y", .str "a"])) L (.lst [.ref t1, .ref t2]) t1 = some (.tup [.str "cup", .str "y", .str "a"]) := Same.trans' (Same.new h2) (Same.new h3) _ _ upd_same
      have gt2 : upd (upd (upd H13 t1 (.tup [.str "cup", .str "y", .str "a"])) t2 (.tup [.str "b", .str "y", .str "a"])) L (.lst [.ref t1, .ref t2]) t2 = some (.tup [.str "b", .str "y", .str "a"]) := Same.new h3 _ _ upd_same
      have gL : upd (upd (upd H13 t1 (.tup [.str "cup", .str "y", .str "a"])) t2 (.tup [.str "b", .str "y", .str "a"])) L (.lst [.ref t1, .ref t2]) L = some (.lst [.ref t1, .ref t2]) := upd_same
      clear h1 h2 h3
      generalize upd (upd (upd H13 t1 (.tup [.str "cup", .str "y", .str "a"])) t2 (.tup [.str "b", .str "y", .str "a"])) L (.lst [.ref t1, .ref t2]) = H14 at S14 gt1 gt2 gL ⊢
      refine ⟨D, L, _, _, rfl, rfl, S14 _ _ gD, gL, smallN (by rw [List.length_map]; show qs.length + 2 ≤ 1000; omega), fun Ky hKy => ?_⟩
      have S15 := Same.new (u := .lst (qs.map V.ref ++ [.ref t1, .ref t2])) hKy
      have gKy : upd H14 Ky (.lst (qs.map V.ref ++ [.ref t1, .ref t2])) Ky = some (.lst ((qs ++ [t1, t2]).map V.ref)) := by rw [upd_same, List.map_append]; rfl
      generalize upd H14 Ky (.lst (qs.map V.ref ++ [.ref t1, .ref t2])) = H15 at S15 gKy ⊢
      have ky15 : SpotsAt H15 Ky (keysL kn) := ⟨qs ++ [t1, t2], gKy, paired_app (Paired.mono (fun _ _ h => (h.same S14).same S15) hqs) (.cons (S15 _ _ gt1) (.cons (S15 _ _ gt2) .nil))⟩
      have w15 := well_same w13 (S14.trans S15)
      have hq15 := hq13.same (S14.trans S15)
      have g15 := (S14.trans S15) _ _ g13
      have nKp : Ky ≠ p3 := (ne_of_none (S14 _ _ g13) hKy).symm
      clear S14 S15 gt1 gt2 gL hqs gD gKy hKy w13 hq13 g13 lqs
      -- the table
      refine fun M hM => ⟨smallN (by show 0 ≤ 1000; decide), fun Wl hWl => ⟨smallN (by show 0 ≤ 1000; decide), fun Bl hBl => ?_⟩⟩
      have S16 : Same H15 (upd (upd (upd H15 M (.dK [])) Wl (.lst [])) Bl (.lst [])) := Same.trans' (Same.trans' (Same.new hM) (Same.new hWl)) (Same.new hBl)
      have gM : upd (upd (upd H15 M (.dK [])) Wl (.lst [])) Bl (.lst []) M = some (.dK []) := Same.trans' (Same.new hWl) (Same.new hBl) _ _ upd_same
      have gW : upd (upd (upd H15 M (.dK [])) Wl (.lst [])) Bl (.lst []) Wl = some (.lst []) := Same.new hBl _ _ upd_same
      have gB : upd (upd (upd H15 M (.dK [])) Wl (.lst [])) Bl (.lst []) Bl = some (.lst []) := upd_same
      have nWB : Wl ≠ Bl := ne_of_none (upd_same (H := upd H15 M (.dK [])) (a := Wl) (o := .lst [])) hBl
      obtain ⟨kqs, gKy, _⟩ := id ky15
      have nKW : Ky ≠ Wl := ne_of_none (Same.new hM _ _ gKy) hWl
      have nKB : Ky ≠ Bl := ne_of_none (Same.trans' (Same.new hM) (Same.new hWl) _ _ gKy) hBl
      have npW : p3 ≠ Wl := ne_of_none (Same.new hM _ _ g15) hWl
      have npB : p3 ≠ Bl := ne_of_none (Same.trans' (Same.new hM) (Same.new hWl) _ _ g15) hBl
      clear hWl hBl
      generalize upd (upd (upd H15 M (.dK [])) Wl (.lst [])) Bl (.lst []) = H16 at S16 gM gW gB ⊢
      refine ⟨gM, mK ⟨M, Wl, Bl⟩, rfl, by show 2 ≤ 15; decide, ?_⟩
      rw [mK_merge]
      have S17 : Same H15 (upd H16 M (.dK (mK ⟨M, Wl, Bl⟩))) := fun b o hb => (upd_ne (ne_of_none hb hM)).trans (S16 _ _ hb)
      have hm17 : MAt (upd H16 M (.dK (mK ⟨M, Wl, Bl⟩))) ⟨M, Wl, Bl⟩ [] [] := ⟨upd_same, ⟨[], (upd_ne (ne_of gW gM fun z => nomatch z)).trans gW, .nil⟩, ⟨[], (upd_ne (ne_of gB gM fun z => nomatch z)).trans gB, .nil⟩, nWB⟩
      generalize upd H16 M (.dK (mK ⟨M, Wl, Bl⟩)) = H17 at S17 hm17 ⊢
      have t17 : TurnS K H17 A ⟨M, Wl, Bl⟩ Ky p3 aw cells (keysL kn) 0 clk n12 (QS.new lg) [] [] := ⟨well_same w15 S17, hq15.same S17, hm17, fits_new lg, dly_new l1 l2, ⟨Nat.zero_le _, Nat.zero_le _, Nat.zero_le _⟩, by show 0 ≤ 4; decide, Nat.le_refl _, ky15.same S17, nKW, nKB, fun r hr => (nomatch hr), fun r hr => (nomatch hr), c0, S17 _ _ g15, npW, npB, n3⟩
      clear S16 gM gW gB nWB ky15 gKy nKW nKB npW npB S17 hm17 w15 hq15 g15 hM
      refine ⟨_, rfl, aw, n12, 151, rfl, t17.w, by omega, by decide, by decide, fun r u18 n18 r0 r1 hn18 hu18 => ?_⟩
      have w18 := well_upd (H := H17) (a := aw) hu18
      have t18 := t17.keep (Keep.at_ (u := u18)) w18
      generalize upd H17 aw u18 = H18 at t18 ⊢
      clear t17 w18
      have okK : ∀ key ∈ keysL kn, okKey key = true := fun key h => List.all_eq_true.mp (keysL_ok kn k2) key h
      have lenK := keysL_len kn
      generalize keysL kn = KS at t18 okK lenK
      refine ⟨r, rfl, by omega, by omega, for_range (lo := 0) (n := r.toNat) (fun i σ H' => ∃ (c : Int) (n' : Nat) (s : QS) (W : List Wish) (C : List Spot) (Wl : Addr) (x7 x8 x9 x10 : Option V), σ = [some (.ref a), some (.int z), some (.ref aw), some (.ref A.q), some (.int c), some (.ref Ky), some (.ref M), x7, x8, x9, x10, v11] ∧ TurnS K H' A ⟨M, Wl, Bl⟩ Ky p3 aw cells KS i c n' s W C ∧ n' ≤ 100 + 20 * i)
        ⟨clk, n18, _, [], [], Wl, _, _, _, _, rfl, t18, by omega⟩ ?_ ?_⟩
      · rintro i σ H19 hi ⟨c, n19, s, W, C, Wl, x7, x8, x9, x10, rfl, t19, hn19⟩
        have hi : i < 151 := by omega
        refine ⟨_, rfl, _, rfl, smallN (by show 3 ≤ 1000; decide), fun p20 q20 => ?_⟩
        have g20 : upd H19 p20 (.lst [.int 0, .int 0, .int 1]) p20 = _ := upd_same
        have n20 : p20 ≠ aw := well_ne3 t19.w q20
        have t20 := t19.same (Same.new (u := .lst [.int 0, .int 0, .int 1]) q20)
        generalize upd H19 p20 (.lst [.int 0, .int 0, .int 1]) = H20 at g20 t20 ⊢
        refine ⟨aw, p20, n19, _, rfl, t20.w, by omega, g20, n20, by show 0 < 3; decide, by show 3 ≤ 1000; decide, fun y u21 n21 hy hn21 hu21 => ?_⟩
        obtain ⟨dc, rfl, d0⟩ : ∃ dc : Int, y = .int dc ∧ 0 ≤ dc := by
          simp only [List.mem_cons, List.not_mem_nil, or_false] at hy
          rcases hy with rfl | rfl | rfl <;> exact ⟨_, rfl, by decide⟩
        have w21 := well_upd (H := H20) (a := aw) hu21
        have K21 : Keep aw H20 (upd H20 aw u21) := Keep.at_
        have t21 := (t20.keep K21 w21).clock d0
        generalize upd H20 aw u21 = H21 at t21 ⊢
        clear t19 t20 w21 K21 g20 n20 hy q20
        refine ⟨_, _, rfl, rfl, ?_⟩
        refine ⟨_, rfl, aw, n21, 5, rfl, t21.w, by omega, by decide, by decide, fun deed u22 n22 d1 d2 hn22 hu22 => ?_⟩
        have w22 := well_upd (H := H21) (a := aw) hu22
        have t22 := t21.keep (Keep.at_ (u := u22)) w22
        generalize upd H21 aw u22 = H22 at t22 ⊢
        clear t21 w22
        have small : Small s := ⟨by have := t22.bd.e; omega, by have := t22.bd.t; omega, by have := t22.bd.d; omega⟩
        refine ⟨_, rfl, _, _, rfl, rfl, _, rfl, ite2 (fun _ => ?_) (fun _ => ?_)⟩
        · obtain ⟨kq, gKy, hKy⟩ := t22.ky
          have lkq : kq.length = KS.length := pair_len hKy
          refine ⟨_, rfl, _, rfl, aw, Ky, n22, _, rfl, t22.w, by omega, gKy, well_refs t22.w gKy, by rw [List.length_map, lkq, lenK]; omega, by rw [List.length_map, lkq, lenK]; omega, fun y u23 n23 hy hn23 hu23 => ?_⟩
          obtain ⟨kb, hkb, rfl⟩ := List.mem_map.mp hy
          obtain ⟨ik, hik⟩ := List.mem_iff_getElem?.mp hkb
          obtain ⟨key, ekey, hk22⟩ := paired_get hKy hik
          have inK : key ∈ KS := mem_at ekey
          have w23 := well_upd (H := H22) (a := aw) hu23
          have K23 : Keep aw H22 (upd H22 aw u23) := Keep.at_
          have t23 := t22.keep K23 w23
          have hk23 := hk22.keepW t22.w K23
          generalize upd H22 aw u23 = H23 at t23 hk23 ⊢
          clear w23 K23 hk22 hKy gKy hy hkb hik
          refine ⟨_, rfl, _, rfl, aw, n23, 9, rfl, t23.w, by omega, by decide, by decide, fun r4 u24 n24 r40 r41 hn24 hu24 => ?_⟩
          have w24 := well_upd (H := H23) (a := aw) hu24
          have K24 : Keep aw H23 (upd H23 aw u24) := Keep.at_
          have t24 := t23.keep K24 w24
          have hk24 := hk23.keepW t23.w K24
          generalize upd H23 aw u24 = H24 at t24 hk24 ⊢
          clear w24 K24 hk23 t23 t22
          refine ⟨_, _, rfl, rfl, _, _, rfl, rfl, _, _, rfl, ?_⟩
          obtain ⟨tm, etm, t0, t1⟩ : ∃ tm : Int, (if c + dc + r4 - 3 > 0 then c + dc + r4 - 3 else 0) = tm ∧ 0 ≤ tm ∧ tm ≤ c + dc + 1000 := ⟨_, rfl, by split <;> omega, by have := t24.c0; split <;> omega⟩
          rw [etm]
          refine ⟨_, _, rfl, ?_⟩
          obtain ⟨ps, gW, hp⟩ := t24.m.w
          have lp : ps.length = W.length := pair_len hp
          have lw := t24.lw
          refine ⟨_, rfl, M, _, rfl, t24.m.gW, .inl ⟨rfl, _, SqL.of gW⟩, _, rfl, _, rfl, smallN (by show 2 ≤ 1000; decide), fun T hT => ?_⟩
          have S25 := Same.new (u := .tup [.ref kb, .int tm]) hT
          have gT : upd H24 T (.tup [.ref kb, .int tm]) T = _ := upd_same
          have t25 := t24.same S25
          have hk25 := hk24.same S25
          have gW25 := S25 _ _ gW
          generalize upd H24 T (.tup [.ref kb, .int tm]) = H25 at S25 gT t25 hk25 gW25 ⊢
          have hp25 : Paired (RowWish H25) ps W := Paired.mono (fun _ _ r => rowWish_keep (fun b ys hb => S25 _ _ hb) r) hp
          obtain ⟨hm26, o26⟩ := t25.m.setW (ps := ps ++ [T]) (W2 := W ++ [(key, tm)]) (Paired.snoc hp25 ⟨kb, gT, hk25⟩)
          have e26 : upd H25 Wl (.lst (ps.map V.ref ++ [.ref T])) = upd H25 Wl (.lst ((ps ++ [T]).map V.ref)) := by rw [List.map_append]; rfl
          refine ⟨Wl, _, _, rfl, rfl, gW25, smallN (by rw [List.length_map]; omega), ?_⟩
          rw [e26]
          have hq26 := t25.q.offM t25.m o26
          have hk26 := t25.m.off o26 hk25 rfl
          have L26 : OffW aw A ⟨M, Wl, Bl⟩ H25 _ := OffW.ofAB (OffAB.ofM o26)
          generalize upd H25 Wl (.lst ((ps ++ [T]).map V.ref)) = H26 at hm26 o26 hq26 hk26 L26 ⊢
          refine ⟨_, rfl, A.q, A.dx, _, rfl, hq26.ob, qF_no (by decide +kernel), _, rfl, _, rfl, A, s, kb, key, tm, rfl, hq26, hk26, okK key inK, t0, small, fun H27 O27 hq27 => ?_⟩
          have L27 : OffW aw A ⟨M, Wl, Bl⟩ H25 H27 := L26.trans (OffW.ofAB (OffAB.ofQ O27))
          have t27 : TurnS K H27 A ⟨M, Wl, Bl⟩ Ky p3 aw cells KS (i + 1) (c + dc) n24 (s.add key tm) (W ++ [(key, tm)]) C :=
            ⟨well_offQ (well_offM t25.w t25.m o26) hq26 O27, hq27, hm26.offQ hq26 O27, fits_add t25.fits key tm, t25.dly.add key tm, (t25.bd.add key tm).mono (by omega), t25.lc, by rw [List.length_append]; show W.length + 1 ≤ i + 1; omega, L27.spots t25.w t25.q t25.m t25.ky t25.k1 t25.k2, t25.k1, t25.k2, fun r hr => by
              rcases List.mem_append.mp hr with y | y
              · exact t25.okW r y
              · rw [List.mem_singleton.mp y]; exact ⟨inK, t1⟩, t25.okC, t25.c0, L27.lst t25.q t25.m t25.g t25.p4 t25.p1 t25.p2, t25.p1, t25.p2, t25.p4⟩
          exact work_part t27 okK rfl rfl fun H' t' => ⟨_, n24, _, _, _, Wl, _, _, _, _, rfl, t', by omega⟩
        · have over_ := @over_part K
          refine ⟨_, rfl, _, _, rfl, rfl, _, rfl, ite2 (fun _ => ?_) (fun _ => ?_)⟩
          · obtain ⟨bq, gB, hb⟩ := t22.m.b
            have lb : bq.length = C.length := pair_len hb
            refine ⟨_, rfl, M, _, rfl, t22.m.gB, Bl, _, rfl, .inl (SqL.of gB), _, _, rfl, rfl, _, rfl, ite2 (fun lt => ?_) (fun _ => ?_)⟩
            · have lt : ((bq.map V.ref).length : Int) < 4 := of_decide_eq_true lt
              rw [List.length_map, lb] at lt
              refine ⟨_, rfl, _, rfl, _, rfl, A, s, ⟨M, Wl, Bl⟩, W, C, c + dc, rfl, t22.q, t22.m, t22.fits, small, by have := t22.lw; omega, by omega, t22.c0, fun H23 B' s' W' C' O23 mM mB mW q' m' rel => ⟨_, rfl, iteF ?_⟩⟩
              obtain ⟨M', Wl', Bl'⟩ := B'
              obtain rfl : M' = M := mM
              obtain rfl : Bl' = Bl := mB
              have x : OffW aw A ⟨M', Wl, Bl'⟩ H22 H23 := OffW.ofAB O23
              have w23 := well_offAB t22.w t22.q t22.m O23
              obtain ⟨kq, gKy, _⟩ := id t22.ky
              have nk : Ky ≠ Wl' := mW.elim (fun z => by have z : Wl' = Wl := z; rw [z]; exact t22.k1) fun z => ne_of_none gKy z
              have np : p3 ≠ Wl' := mW.elim (fun z => by have z : Wl' = Wl := z; rw [z]; exact t22.p1) fun z => ne_of_none t22.g z
              have ky := x.spots t22.w t22.q t22.m t22.ky t22.k1 t22.k2
              have g := x.lst t22.q t22.m t22.g t22.p4 t22.p1 t22.p2
              have t23 : TurnS K H23 A ⟨M', Wl', Bl'⟩ Ky p3 aw cells KS (i + 1) (c + dc) n22 s' W' C' := by
                rcases rel with ⟨rfl, rfl, rfl⟩ | ⟨k, inW, nb, rfl, rfl, rfl⟩
                · exact ⟨w23, q', m', t22.fits, t22.dly, t22.bd.mono (by omega), t22.lc, Nat.le_succ_of_le t22.lw, ky, nk, t22.k2, t22.okW, t22.okC, t22.c0, g, np, t22.p2, t22.p4⟩
                · obtain ⟨rw_, hrw, erw⟩ := List.mem_map.mp inW
                  exact ⟨w23, q', m', fits_out t22.fits nb, t22.dly.take k, (t22.bd.out k).mono (by omega), by rw [List.length_append]; show C.length + 1 ≤ 4; omega, Nat.le_succ_of_le (Nat.le_trans (List.length_filter_le _ _) t22.lw), ky, nk, t22.k2, fun r hr => t22.okW r (List.mem_filter.mp hr).1, fun j hj => by
                    rcases List.mem_append.mp hj with y | y
                    · exact t22.okC j y
                    · rw [List.mem_singleton.mp y, ← erw]; exact (t22.okW _ hrw).1, t22.c0, g, np, t22.p2, t22.p4⟩
              exact work_part t23 okK rfl rfl fun H' t' => ⟨_, n22, _, _, _, Wl', _, _, _, _, rfl, t', by omega⟩
            · exact over_ t22 okK (by omega) (by omega) rfl rfl rfl rfl fun H' n' s' W' C' t' hn' => work_part t' okK rfl rfl fun H' t' => ⟨_, n', _, _, _, Wl, _, _, _, _, rfl, t', by omega⟩
          · exact over_ t22 okK (by omega) (by omega) rfl rfl rfl rfl fun H' n' s' W' C' t' hn' => work_part t' okK rfl rfl fun H' t' => ⟨_, n', _, _, _, Wl, _, _, _, _, rfl, t', by omega⟩
      · rintro σ H19 ⟨c, n19, s, W, C, Wl, x7, x8, x9, x10, rfl, t19, hn19⟩
        refine ⟨_, rfl, _, rfl, _, rfl, A, s, ⟨M, Wl, Bl⟩, W, C, c, 3 * r.toNat, rfl, t19.q, t19.m, t19.fits, by have := t19.lc; omega, fun k hk => okK k (t19.okC k hk), fun r hr => ⟨okK _ (t19.okW r hr).1, by have := (t19.okW r hr).2; omega⟩, ⟨KS, by omega, fun r hr => (t19.okW r hr).1⟩, t19.bd, by omega, by have := t19.lw; omega, t19.c0, fun H20 O20 => ⟨_, rfl, iteF ?_⟩⟩
        exact ⟨_, _, _, _, _, _, _, _, _, _, _, rfl, (OffW.ofAB O20).lst t19.q t19.m t19.g t19.p4 t19.p1 t19.p2⟩
  · exact fun σ H4 _ => k H4

def dd__wall : He.DefD := ⟨("_wall", none), "_wall", "_wall", defArgs s__wall, defBody s__wall, defScope s__wall, [], []⟩
def dd_is_user_name : He.DefD := ⟨("is_user_name", none), "is_user_name", "is_user_name", defArgs s_is_user_name, defBody s_is_user_name, defScope s_is_user_name, [], []⟩
def dd_number_of : He.DefD := ⟨("number_of", none), "number_of", "number_of", defArgs s_number_of, defBody s_number_of, defScope s_number_of, [], []⟩
def dd_part_of : He.DefD := ⟨("part_of", none), "part_of", "part_of", defArgs s_part_of, defBody s_part_of, defScope s_part_of, [], []⟩
def dd_apart : He.DefD := ⟨("apart", none), "apart", "apart", defArgs s_apart, defBody s_apart, defScope s_apart, [], []⟩
def dd_is_maker : He.DefD := ⟨("is_maker", none), "is_maker", "is_maker", defArgs s_is_maker, defBody s_is_maker, defScope s_is_maker, [], []⟩
def dd_is_name : He.DefD := ⟨("is_name", none), "is_name", "is_name", defArgs s_is_name, defBody s_is_name, defScope s_is_name, [], []⟩
def dd_is_integer : He.DefD := ⟨("is_integer", none), "is_integer", "is_integer", defArgs s_is_integer, defBody s_is_integer, defScope s_is_integer, [], []⟩
def dd_check_number : He.DefD := ⟨("check_number", none), "check_number", "check_number", defArgs s_check_number, defBody s_check_number, defScope s_check_number, [.non], []⟩
def dd_check_key : He.DefD := ⟨("check_key", none), "check_key", "check_key", defArgs s_check_key, defBody s_check_key, defScope s_check_key, [], []⟩
def dd__law_cell_at : He.DefD := ⟨("_law_cell_at", none), "_law_cell_at", "_law_cell_at", defArgs s__law_cell_at, defBody s__law_cell_at, defScope s__law_cell_at, [], []⟩
def dd__law_well : He.DefD := ⟨("_law_well", none), "_law_well", "_law_well", defArgs s__law_well, defBody s__law_well, defScope s__law_well, [], []⟩
def dd__law_draw : He.DefD := ⟨("_law_draw", none), "_law_draw", "_law_draw", defArgs s__law_draw, defBody s__law_draw, defScope s__law_draw, [], []⟩
def dd__law_one : He.DefD := ⟨("_law_one", none), "_law_one", "_law_one", defArgs s__law_one, defBody s__law_one, defScope s__law_one, [], []⟩
def dd__law_open : He.DefD := ⟨("_law_open", none), "_law_open", "_law_open", defArgs s__law_open, defBody s__law_open, defScope s__law_open, [], []⟩
def dd__law_took : He.DefD := ⟨("_law_took", none), "_law_took", "_law_took", defArgs s__law_took, defBody s__law_took, defScope s__law_took, [], []⟩
def dd__law_over : He.DefD := ⟨("_law_over", none), "_law_over", "_law_over", defArgs s__law_over, defBody s__law_over, defScope s__law_over, [], []⟩
def dd__law_worked_off : He.DefD := ⟨("_law_worked_off", none), "_law_worked_off", "_law_worked_off", defArgs s__law_worked_off, defBody s__law_worked_off, defScope s__law_worked_off, [], []⟩
def dd_law : He.DefD := ⟨("law", none), "law", "law", defArgs s_law, defBody s_law, defScope s_law, [], []⟩
def dd_Queue___init__ : He.DefD := ⟨("Queue", some "__init__"), "__init__", "Queue.__init__", defArgs s_Queue___init__, defBody s_Queue___init__, defScope s_Queue___init__, [], [("most", .int 1)]⟩
def dd_Queue_put : He.DefD := ⟨("Queue", some "put"), "put", "Queue.put", defArgs s_Queue_put, defBody s_Queue_put, defScope s_Queue_put, [], []⟩
def dd_Queue_add : He.DefD := ⟨("Queue", some "add"), "add", "Queue.add", defArgs s_Queue_add, defBody s_Queue_add, defScope s_Queue_add, [], []⟩
def dd_Queue_take : He.DefD := ⟨("Queue", some "take"), "take", "Queue.take", defArgs s_Queue_take, defBody s_Queue_take, defScope s_Queue_take, [], []⟩
def dd_Queue_check_taken : He.DefD := ⟨("Queue", some "check_taken"), "check_taken", "Queue.check_taken", defArgs s_Queue_check_taken, defBody s_Queue_check_taken, defScope s_Queue_check_taken, [], []⟩
def dd_Queue_done : He.DefD := ⟨("Queue", some "done"), "done", "Queue.done", defArgs s_Queue_done, defBody s_Queue_done, defScope s_Queue_done, [], []⟩
def dd_Queue_retry : He.DefD := ⟨("Queue", some "retry"), "retry", "Queue.retry", defArgs s_Queue_retry, defBody s_Queue_retry, defScope s_Queue_retry, [], []⟩
def dd_Queue_forget : He.DefD := ⟨("Queue", some "forget"), "forget", "Queue.forget", defArgs s_Queue_forget, defBody s_Queue_forget, defScope s_Queue_forget, [], []⟩
def dd_Queue_delay : He.DefD := ⟨("Queue", some "delay"), "delay", "Queue.delay", defArgs s_Queue_delay, defBody s_Queue_delay, defScope s_Queue_delay, [], []⟩
def dd_Queue_waiting : He.DefD := ⟨("Queue", some "waiting"), "waiting", "Queue.waiting", defArgs s_Queue_waiting, defBody s_Queue_waiting, defScope s_Queue_waiting, [], []⟩
def dd_Queue_working : He.DefD := ⟨("Queue", some "working"), "working", "Queue.working", defArgs s_Queue_working, defBody s_Queue_working, defScope s_Queue_working, [], []⟩
def dd_Queue_next_time : He.DefD := ⟨("Queue", some "next_time"), "next_time", "Queue.next_time", defArgs s_Queue_next_time, defBody s_Queue_next_time, defScope s_Queue_next_time, [], []⟩
def fn : List He.DefD := [dd__wall, dd_is_user_name, dd_number_of, dd_part_of, dd_apart, dd_is_maker, dd_is_name, dd_is_integer, dd_check_number, dd_check_key, dd__law_cell_at, dd__law_well, dd__law_draw, dd__law_one, dd__law_open, dd__law_took, dd__law_over, dd__law_worked_off, dd_law, dd_Queue___init__, dd_Queue_put, dd_Queue_add, dd_Queue_take, dd_Queue_check_taken, dd_Queue_done, dd_Queue_retry, dd_Queue_forget, dd_Queue_delay, dd_Queue_waiting, dd_Queue_working, dd_Queue_next_time]
def fa : List He.Fa := [.glo "_wall", .glo "is_user_name", .glo "number_of", .glo "part_of", .glo "apart", .glo "is_maker", .glo "is_name", .glo "is_integer", .glo "check_number", .glo "check_key", .glo "_law_cell_at", .glo "_law_well", .glo "_law_draw", .glo "_law_one", .glo "_law_open", .glo "_law_took", .glo "_law_over", .glo "_law_worked_off", .glo "law", .glo "PlaneError", .glo "BadKey", .glo "BadValue", .glo "NotTaken", .glo "Queue", .free "len", .free "int", .free "bool", .free "str", .free "list", .free "tuple", .free "set", .free "range", .free "isinstance", .free "max", .free "min", .free "all", .free "sorted", .free "ValueError", .str "SMALL" "abcdefghijklmnopqrstuvwxyz", .str "DIGITS" "0123456789", .int "MOST_SIGNS" 10, .int "MOST_MADE" 22, .int "MOST_DELAY" 1000, .glo "HIGHEST", .cls "Queue", .mkr "Queue", .noat "Queue" "longest", .noat "Queue" "entries", .noat "Queue" "taken", .noat "Queue" "delays", .noat "Queue" "count", .meth "Queue" "put", .meth "Queue" "add", .meth "Queue" "take", .meth "Queue" "check_taken", .meth "Queue" "done", .meth "Queue" "retry", .meth "Queue" "forget", .meth "Queue" "delay", .meth "Queue" "waiting", .meth "Queue" "working", .meth "Queue" "next_time"]
def tf : List He.Defn := []
def ts : List He.Tab := [((fun K => He.ga K "HIGHEST"), ["s", "j", "r"])]
abbrev R : PySem.W.OpenRow := PySem.W.OpenLaw.row PySem.Challenge.rw_controlplane_k44_whole_nothing_is_forgot
abbrev hk : PySem.W.Hook := hookY fa fn ts tf exB
def ob (s : PySem.W.SharedT) : He.AlX := obsY fa fn ts tf exB (HandSHeadRun.getT s)
theorem ob_eq (s : PySem.W.SharedT) : ob s = hk.obs s.abs := obsY_eq (HandSHeadRun.getT_eq s)
theorem run (w : World) : HandSHeadRun.RunEq R (PySem.W.view R.prog [35]) hk ob 4000 [("__name__" : PySem.Str), ("PlaneError" : PySem.Str), ("BadKey" : PySem.Str), ("BadValue" : PySem.Str), ("NotTaken" : PySem.Str), ("Queue" : PySem.Str), ("_wall" : PySem.Str), ("is_user_name" : PySem.Str), ("number_of" : PySem.Str), ("part_of" : PySem.Str), ("apart" : PySem.Str), ("is_maker" : PySem.Str), ("is_name" : PySem.Str), ("is_integer" : PySem.Str), ("check_number" : PySem.Str), ("check_key" : PySem.Str), ("_law_cell_at" : PySem.Str), ("_law_well" : PySem.Str), ("_law_draw" : PySem.Str), ("_law_one" : PySem.Str), ("_law_open" : PySem.Str), ("_law_took" : PySem.Str), ("_law_over" : PySem.Str), ("_law_worked_off" : PySem.Str), ("SMALL" : PySem.Str), ("DIGITS" : PySem.Str), ("MOST_SIGNS" : PySem.Str), ("MOST_MADE" : PySem.Str), ("HIGHEST" : PySem.Str), ("MOST_DELAY" : PySem.Str)] w := PySem.W.byRow2 "special-get-raises" (P := fun w => HandSHeadRun.RunEq R (PySem.W.view R.prog [35]) hk ob 4000 [("__name__" : PySem.Str), ("PlaneError" : PySem.Str), ("BadKey" : PySem.Str), ("BadValue" : PySem.Str), ("NotTaken" : PySem.Str), ("Queue" : PySem.Str), ("_wall" : PySem.Str), ("is_user_name" : PySem.Str), ("number_of" : PySem.Str), ("part_of" : PySem.Str), ("apart" : PySem.Str), ("is_maker" : PySem.Str), ("is_name" : PySem.Str), ("is_integer" : PySem.Str), ("check_number" : PySem.Str), ("check_key" : PySem.Str), ("_law_cell_at" : PySem.Str), ("_law_well" : PySem.Str), ("_law_draw" : PySem.Str), ("_law_one" : PySem.Str), ("_law_open" : PySem.Str), ("_law_took" : PySem.Str), ("_law_over" : PySem.Str), ("_law_worked_off" : PySem.Str), ("SMALL" : PySem.Str), ("DIGITS" : PySem.Str), ("MOST_SIGNS" : PySem.Str), ("MOST_MADE" : PySem.Str), ("HIGHEST" : PySem.Str), ("MOST_DELAY" : PySem.Str)] w) (fun w => by intro os; kernel_rfl) (fun w => by intro os; kernel_rfl) w
theorem facts {P : Program} {w : World} {K : PySem.W.Frag} {h : Heap} {mg : Str → Option Value} {f : Addr} (X : K.In h) (G : h.Ns mainGlobals mg) (hfa : mg ("law" : Str) = some (.ref f)) (c : He.SaysX fa fn ts tf exB w h K) :
    ∃ fd : FuncData, (∀ (s : Shared) (v : Value), BindsTo s fd ⟨[v], []⟩ [("_law_script", v)]) ∧ ∀ base : Heap, K.In base → base.Ns mainGlobals mg → FnOk P w K mg base CX0 58 f fd ["_law_script"] (sp_law K) := by
  have cd := c.t.d
  have T : Txt K mg w := ⟨He.glo_ok X G (cd.fact 0 (f := .glo "_wall") rfl),
    cd.def_ 0 (d := dd__wall) rfl,
    He.glo_ok X G (cd.fact 1 (f := .glo "is_user_name") rfl),
    cd.def_ 1 (d := dd_is_user_name) rfl,
    He.glo_ok X G (cd.fact 2 (f := .glo "number_of") rfl),
    cd.def_ 2 (d := dd_number_of) rfl,
    He.glo_ok X G (cd.fact 3 (f := .glo "part_of") rfl),
    cd.def_ 3 (d := dd_part_of) rfl,
    He.glo_ok X G (cd.fact 4 (f := .glo "apart") rfl),
    cd.def_ 4 (d := dd_apart) rfl,
    He.glo_ok X G (cd.fact 5 (f := .glo "is_maker") rfl),
    cd.def_ 5 (d := dd_is_maker) rfl,
    He.glo_ok X G (cd.fact 6 (f := .glo "is_name") rfl),
    cd.def_ 6 (d := dd_is_name) rfl,
    He.glo_ok X G (cd.fact 7 (f := .glo "is_integer") rfl),
    cd.def_ 7 (d := dd_is_integer) rfl,
    He.glo_ok X G (cd.fact 8 (f := .glo "check_number") rfl),
    cd.def_ 8 (d := dd_check_number) rfl,
    He.glo_ok X G (cd.fact 9 (f := .glo "check_key") rfl),
    cd.def_ 9 (d := dd_check_key) rfl,
    He.glo_ok X G (cd.fact 10 (f := .glo "_law_cell_at") rfl),
    cd.def_ 10 (d := dd__law_cell_at) rfl,
    He.glo_ok X G (cd.fact 11 (f := .glo "_law_well") rfl),
    cd.def_ 11 (d := dd__law_well) rfl,
    He.glo_ok X G (cd.fact 12 (f := .glo "_law_draw") rfl),
    cd.def_ 12 (d := dd__law_draw) rfl,
    He.glo_ok X G (cd.fact 13 (f := .glo "_law_one") rfl),
    cd.def_ 13 (d := dd__law_one) rfl,
    He.glo_ok X G (cd.fact 14 (f := .glo "_law_open") rfl),
    cd.def_ 14 (d := dd__law_open) rfl,
    He.glo_ok X G (cd.fact 15 (f := .glo "_law_took") rfl),
    cd.def_ 15 (d := dd__law_took) rfl,
    He.glo_ok X G (cd.fact 16 (f := .glo "_law_over") rfl),
    cd.def_ 16 (d := dd__law_over) rfl,
    He.glo_ok X G (cd.fact 17 (f := .glo "_law_worked_off") rfl),
    cd.def_ 17 (d := dd__law_worked_off) rfl,
    He.glo_ok X G (cd.fact 18 (f := .glo "law") rfl),
    cd.def_ 18 (d := dd_law) rfl,
    cd.def_ 19 (d := dd_Queue___init__) rfl,
    cd.def_ 20 (d := dd_Queue_put) rfl,
    cd.def_ 21 (d := dd_Queue_add) rfl,
    cd.def_ 22 (d := dd_Queue_take) rfl,
    cd.def_ 23 (d := dd_Queue_check_taken) rfl,
    cd.def_ 24 (d := dd_Queue_done) rfl,
    cd.def_ 25 (d := dd_Queue_retry) rfl,
    cd.def_ 26 (d := dd_Queue_forget) rfl,
    cd.def_ 27 (d := dd_Queue_delay) rfl,
    cd.def_ 28 (d := dd_Queue_waiting) rfl,
    cd.def_ 29 (d := dd_Queue_working) rfl,
    cd.def_ 30 (d := dd_Queue_next_time) rfl,
    He.glo_ok X G (cd.fact 19 (f := .glo "PlaneError") rfl),
    He.glo_ok X G (cd.fact 20 (f := .glo "BadKey") rfl),
    He.glo_ok X G (cd.fact 21 (f := .glo "BadValue") rfl),
    He.glo_ok X G (cd.fact 22 (f := .glo "NotTaken") rfl),
    He.glo_ok X G (cd.fact 23 (f := .glo "Queue") rfl),
    He.free_ok X G (cd.fact 24 (f := .free "len") rfl),
    He.free_ok X G (cd.fact 25 (f := .free "int") rfl),
    He.free_ok X G (cd.fact 26 (f := .free "bool") rfl),
    He.free_ok X G (cd.fact 27 (f := .free "str") rfl),
    He.free_ok X G (cd.fact 28 (f := .free "list") rfl),
    He.free_ok X G (cd.fact 29 (f := .free "tuple") rfl),
    He.free_ok X G (cd.fact 30 (f := .free "set") rfl),
    He.free_ok X G (cd.fact 31 (f := .free "range") rfl),
    He.free_ok X G (cd.fact 32 (f := .free "isinstance") rfl),
    He.free_ok X G (cd.fact 33 (f := .free "max") rfl),
    He.free_ok X G (cd.fact 34 (f := .free "min") rfl),
    He.free_ok X G (cd.fact 35 (f := .free "all") rfl),
    He.free_ok X G (cd.fact 36 (f := .free "sorted") rfl),
    He.free_ok X G (cd.fact 37 (f := .free "ValueError") rfl),
    He.str_ok X G (cd.fact 38 (f := .str "SMALL" "abcdefghijklmnopqrstuvwxyz") rfl),
    He.str_ok X G (cd.fact 39 (f := .str "DIGITS" "0123456789") rfl),
    He.int_ok X G (cd.fact 40 (f := .int "MOST_SIGNS" 10) rfl),
    He.int_ok X G (cd.fact 41 (f := .int "MOST_MADE" 22) rfl),
    He.int_ok X G (cd.fact 42 (f := .int "MOST_DELAY" 1000) rfl),
    He.glo_ok X G (cd.fact 43 (f := .glo "HIGHEST") rfl),
    He.cls_ok (cd.fact 44 (f := .cls "Queue") rfl),
    He.mkr_ok (cd.fact 45 (f := .mkr "Queue") rfl),
    He.noat_ok (cd.fact 46 (f := .noat "Queue" "longest") rfl),
    He.noat_ok (cd.fact 47 (f := .noat "Queue" "entries") rfl),
    He.noat_ok (cd.fact 48 (f := .noat "Queue" "taken") rfl),
    He.noat_ok (cd.fact 49 (f := .noat "Queue" "delays") rfl),
    He.noat_ok (cd.fact 50 (f := .noat "Queue" "count") rfl),
    He.meth_ok (cd.fact 51 (f := .meth "Queue" "put") rfl),
    He.meth_ok (cd.fact 52 (f := .meth "Queue" "add") rfl),
    He.meth_ok (cd.fact 53 (f := .meth "Queue" "take") rfl),
    He.meth_ok (cd.fact 54 (f := .meth "Queue" "check_taken") rfl),
    He.meth_ok (cd.fact 55 (f := .meth "Queue" "done") rfl),
    He.meth_ok (cd.fact 56 (f := .meth "Queue" "retry") rfl),
    He.meth_ok (cd.fact 57 (f := .meth "Queue" "forget") rfl),
    He.meth_ok (cd.fact 58 (f := .meth "Queue" "delay") rfl),
    He.meth_ok (cd.fact 59 (f := .meth "Queue" "waiting") rfl),
    He.meth_ok (cd.fact 60 (f := .meth "Queue" "working") rfl),
    He.meth_ok (cd.fact 61 (f := .meth "Queue" "next_time") rfl),
    c.more,
    c.t.tab 0 rfl⟩
  obtain ⟨fd, F⟩ := T.d_law
  have e := hfa.symm.trans T.g_law
  cases e
  have b := FunD.bindsA (ps := ["_law_script"]) F fun _ _ _ _ _ _ us hl => match us, hl with | [_], _ => rfl
  exact ⟨fd, fun s v => b s [v] rfl, fun base _ _ => ok_law T F⟩
end Lk
open PySem PySem.W PySem.Calls PyProof.Rows
theorem PySem.Challenge.cw_controlplane_k44_whole_nothing_is_forgot_holds : PySem.Challenge.rw_controlplane_k44_whole_nothing_is_forgot.Holds := by
  w_on; o_law
  refine HandSHeadRun.head_any (r := OpenLaw.row PySem.Challenge.rw_controlplane_k44_whole_nothing_is_forgot) (q := view (OpenLaw.row PySem.Challenge.rw_controlplane_k44_whole_nothing_is_forgot).prog [35]) (H := Lk.hk) (ob := Lk.ob) (M := 4000) (loose := [("__name__" : PySem.Str), ("PlaneError" : PySem.Str), ("BadKey" : PySem.Str), ("BadValue" : PySem.Str), ("NotTaken" : PySem.Str), ("Queue" : PySem.Str), ("_wall" : PySem.Str), ("is_user_name" : PySem.Str), ("number_of" : PySem.Str), ("part_of" : PySem.Str), ("apart" : PySem.Str), ("is_maker" : PySem.Str), ("is_name" : PySem.Str), ("is_integer" : PySem.Str), ("check_number" : PySem.Str), ("check_key" : PySem.Str), ("_law_cell_at" : PySem.Str), ("_law_well" : PySem.Str), ("_law_draw" : PySem.Str), ("_law_one" : PySem.Str), ("_law_open" : PySem.Str), ("_law_took" : PySem.Str), ("_law_over" : PySem.Str), ("_law_worked_off" : PySem.Str), ("SMALL" : PySem.Str), ("DIGITS" : PySem.Str), ("MOST_SIGNS" : PySem.Str), ("MOST_MADE" : PySem.Str), ("HIGHEST" : PySem.Str), ("MOST_DELAY" : PySem.Str)]) (d := HandSHeadRun.topDef (OpenLaw.row PySem.Challenge.rw_controlplane_k44_whole_nothing_is_forgot).prog 35) (kwd := []) Lk.ob_eq
    (by kernel_rfl) (fun s => by kernel_rfl) Lk.run (by kernel_rfl) (by kernel_rfl) (by kernel_rfl) (by rfl) (by first | assumption | decide +kernel) (by decide +kernel) ⟨rfl, rfl, rfl, rfl, rfl, by decide +kernel⟩ ?hw ?hc
  case hw => w_witness2
  case hc =>
    refine L2.walk_ofE (l := PySem.Challenge.rw_controlplane_k44_whole_nothing_is_forgot) (n := 63) (k := 58) (x := "_law_script") (CX := L2.CX0) rfl (by decide) (by kernel_rfl) ⟨rfl, by decide, by decide⟩ ?F (fun _ _ _ _ z => z)
    intro w mg fa h Y G hmg0
    obtain ⟨K, KX, c⟩ := Y
    have hmg : mg ("law" : PySem.Str) = some (.ref fa) := by
      have e : (HandSHeadRun.topDef (OpenLaw.row PySem.Challenge.rw_controlplane_k44_whole_nothing_is_forgot).prog 35).name = ("law" : PySem.Str) := by kernel_rfl
      rw [← e]
      exact hmg0
    obtain ⟨fd, hb, hF⟩ := Lk.facts (P := (PySem.Challenge.rw_controlplane_k44_whole_nothing_is_forgot).prog) (w := w) KX G hmg c
    exact ⟨K, fd, Lk.sp_law K, KX, hb, fun H a ns hl _ hS => ⟨a, ns, rfl, hS, hl, fun _ => rfl⟩, hF⟩

